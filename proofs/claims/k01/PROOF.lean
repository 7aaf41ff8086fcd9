import PyProof.Rows.All
import Wide.All
import OpenK.AllK
import Wide.FinOn
import HandS.ForMost
import HandS.TupAny
import HandS.TupMul
import HandS.IsInst
import HandS.Deep
import HandS.TupSets
import HandS.Rev
import PySem.Challenge.RW_deltastead_k01_frontiers
set_option Elab.async false
set_option linter.all false
set_option maxRecDepth 100000
set_option maxHeartbeats 4000000
/-! DL0: values without a heap (PV), a store of what may still change (Sto), and what a piece of a text computes over them. -/
namespace DL
open PySem L2

/-- a value: tuples and lists that nobody changes any more are told by their items; what may change stands in the store, at a place -/
inductive PV where
  | non | bl (b : Bool) | int (i : Int) | str (x : Str)
  | tup (xs : List PV) | lst (xs : List PV) | ro (xs : List PV)
  | dct (ks vs : List PV) | loc (l : Nat)

/-- what stands at a place (no places within) -/
inductive Cell where
  | lst (xs : List PV) | dct (ks vs : List PV)

structure Sto where
  nxt : Nat
  cs : Nat → Option Cell
  wf : ∀ l, nxt ≤ l → cs l = none

theorem Sto.ext' {a b : Sto} (h1 : a.nxt = b.nxt) (h2 : ∀ l, a.cs l = b.cs l) : a = b := by
  cases a; cases b
  simp only at h1 h2
  subst h1
  have : ‹Nat → Option Cell› = ‹Nat → Option Cell› := rfl
  rename_i n c w c' w'
  have e : c = c' := funext h2
  subst e
  rfl

def Sto.set (st : Sto) (l : Nat) (c : Cell) : Sto where
  nxt := st.nxt
  cs := fun j => if j = l then (st.cs l).map (fun _ => c) else st.cs j
  wf := fun j h => by
    by_cases e : j = l
    · subst e; rw [if_pos rfl, st.wf j h]; rfl
    · rw [if_neg e]; exact st.wf j h
def Sto.alloc (st : Sto) (c : Cell) : Sto where
  nxt := st.nxt + 1
  cs := fun j => if j = st.nxt then some c else st.cs j
  wf := fun j h => by
    have e : j ≠ st.nxt := by omega
    rw [if_neg e]; exact st.wf j (by omega)
def Sto.restr (b : Nat) (st : Sto) : Sto where
  nxt := b
  cs := fun j => if j < b then st.cs j else none
  wf := fun j h => if_neg (by omega)

def Sto.kill (l : Nat) (st : Sto) : Sto where
  nxt := st.nxt
  cs := fun j => if j = l then none else st.cs j
  wf := fun j h => by
    by_cases e : j = l
    · rw [if_pos e]
    · rw [if_neg e]; exact st.wf j h
theorem Sto.kill_get {st : Sto} {l : Nat} : (st.kill l).cs l = none := if_pos rfl
theorem Sto.kill_ne {st : Sto} {l j : Nat} (h : j ≠ l) : (st.kill l).cs j = st.cs j := if_neg h
theorem Sto.set_get {st : Sto} {l : Nat} {c c0 : Cell} (h : st.cs l = some c0) : (st.set l c).cs l = some c := by
  show (if l = l then (st.cs l).map (fun _ => c) else st.cs l) = some c
  rw [if_pos rfl, h]; rfl
theorem Sto.set_ne {st : Sto} {l j : Nat} {c : Cell} (h : j ≠ l) : (st.set l c).cs j = st.cs j := if_neg h
theorem Sto.alloc_get {st : Sto} {c : Cell} : (st.alloc c).cs st.nxt = some c := if_pos rfl
theorem Sto.alloc_ne {st : Sto} {c : Cell} {j : Nat} (h : j ≠ st.nxt) : (st.alloc c).cs j = st.cs j := if_neg h
theorem Sto.lt_of {st : Sto} {l : Nat} {c : Cell} (h : st.cs l = some c) : l < st.nxt := by
  apply Nat.lt_of_not_le
  intro q
  rw [st.wf l q] at h
  cases h
theorem Sto.restr_self (st : Sto) : st.restr st.nxt = st := Sto.ext' rfl fun l => by
  show (if l < st.nxt then st.cs l else none) = st.cs l
  by_cases h : l < st.nxt
  · rw [if_pos h]
  · rw [if_neg h, st.wf l (by omega)]
theorem Sto.restr_alloc {st : Sto} {c : Cell} {b : Nat} (h : b ≤ st.nxt) : (st.alloc c).restr b = st.restr b := Sto.ext' rfl fun l => by
  show (if l < b then (if l = st.nxt then some c else st.cs l) else none) = if l < b then st.cs l else none
  by_cases q : l < b
  · rw [if_pos q, if_pos q, if_neg (by omega)]
  · rw [if_neg q, if_neg q]
theorem Sto.restr_set_ge {st : Sto} {c : Cell} {b l : Nat} (h : b ≤ l) : (st.set l c).restr b = st.restr b := Sto.ext' rfl fun j => by
  show (if j < b then (if j = l then (st.cs l).map (fun _ => c) else st.cs j) else none) = if j < b then st.cs j else none
  by_cases q : j < b
  · rw [if_pos q, if_pos q, if_neg (by omega)]
  · rw [if_neg q, if_neg q]
theorem Sto.restr_set_lt {st : Sto} {c : Cell} {b l : Nat} (h : l < b) : (st.set l c).restr b = (st.restr b).set l c := Sto.ext' rfl fun j => by
  show (if j < b then (if j = l then (st.cs l).map (fun _ => c) else st.cs j) else none) = if j = l then ((if l < b then st.cs l else none).map (fun _ => c)) else (if j < b then st.cs j else none)
  by_cases e : j = l
  · subst e; simp [h]
  · simp [e]
theorem Sto.set_set {st : Sto} {l : Nat} {c c' : Cell} : (st.set l c).set l c' = st.set l c' := Sto.ext' rfl fun j => by
  show (if j = l then ((if l = l then (st.cs l).map (fun _ => c) else st.cs l)).map (fun _ => c') else (if j = l then (st.cs l).map (fun _ => c) else st.cs j)) = if j = l then (st.cs l).map (fun _ => c') else st.cs j
  by_cases e : j = l
  · subst e; simp; rfl
  · simp [e]
theorem Sto.set_comm {st : Sto} {l k : Nat} {c d : Cell} (h : l ≠ k) : (st.set l c).set k d = (st.set k d).set l c := Sto.ext' rfl fun j => by
  show (if j = k then ((if k = l then (st.cs l).map (fun _ => c) else st.cs k)).map (fun _ => d) else (if j = l then (st.cs l).map (fun _ => c) else st.cs j)) = (if j = l then ((if l = k then (st.cs k).map (fun _ => d) else st.cs l)).map (fun _ => c) else (if j = k then (st.cs k).map (fun _ => d) else st.cs j))
  by_cases e : j = k
  · subst e; simp [h, Ne.symm h]
  · by_cases e2 : j = l
    · subst e2; simp [h, e]
    · simp [e, e2]
theorem Sto.set_self {st : Sto} {l : Nat} {c : Cell} (h : st.cs l = some c) : st.set l c = st := Sto.ext' rfl fun j => by
  show (if j = l then (st.cs l).map (fun _ => c) else st.cs j) = st.cs j
  by_cases e : j = l
  · subst e; simp [h]
  · simp [e]
theorem Sto.set_nxt {st : Sto} {l : Nat} {c : Cell} : (st.set l c).nxt = st.nxt := rfl
theorem Sto.alloc_nxt {st : Sto} {c : Cell} : (st.alloc c).nxt = st.nxt + 1 := rfl
theorem Sto.restr_nxt {st : Sto} {b : Nat} : (st.restr b).nxt = b := rfl
theorem Sto.alloc_set {st : Sto} {c d : Cell} : (st.alloc c).set st.nxt d = st.alloc d := Sto.ext' rfl fun j => by
  show (if j = st.nxt then ((if st.nxt = st.nxt then some c else st.cs st.nxt)).map (fun _ => d) else (if j = st.nxt then some c else st.cs j)) = if j = st.nxt then some d else st.cs j
  by_cases e : j = st.nxt
  · subst e; simp
  · simp [e]

/-! ### places within a value -/
mutual
def PV.lb (n : Nat) : PV → Bool
  | .tup xs => lbs n xs
  | .lst xs => lbs n xs
  | .ro xs => lbs n xs
  | .dct ks vs => lbs n ks && lbs n vs
  | .loc l => decide (l < n)
  | .non => true
  | .bl _ => true
  | .int _ => true
  | .str _ => true
def lbs (n : Nat) : List PV → Bool
  | [] => true
  | x :: r => x.lb n && lbs n r
end
def Cell.val : Cell → PV
  | .lst xs => .lst xs
  | .dct ks vs => .dct ks vs
mutual
/-- places from b on are told by what stands there -/
def PV.res (b : Nat) (cs : Nat → Option Cell) : PV → Option PV
  | .tup xs => (ress b cs xs).map .tup
  | .lst xs => (ress b cs xs).map .lst
  | .ro xs => (ress b cs xs).map .ro
  | .dct ks vs => match ress b cs ks, ress b cs vs with
    | some ks', some vs' => some (.dct ks' vs')
    | _, _ => none
  | .loc l => if l < b then some (.loc l) else (cs l).map Cell.val
  | .non => some .non
  | .bl x => some (.bl x)
  | .int x => some (.int x)
  | .str x => some (.str x)
def ress (b : Nat) (cs : Nat → Option Cell) : List PV → Option (List PV)
  | [] => some []
  | x :: r => match x.res b cs, ress b cs r with
    | some x', some r' => some (x' :: r')
    | _, _ => none
end
mutual
theorem PV.res_lb {b : Nat} {cs : Nat → Option Cell} : ∀ {v : PV}, v.lb b = true → v.res b cs = some v
  | .tup xs, h => by rw [PV.res, ress_lb (by rw [PV.lb] at h; exact h)]; rfl
  | .lst xs, h => by rw [PV.res, ress_lb (by rw [PV.lb] at h; exact h)]; rfl
  | .ro xs, h => by rw [PV.res, ress_lb (by rw [PV.lb] at h; exact h)]; rfl
  | .dct ks vs, h => by
    rw [PV.lb, Bool.and_eq_true] at h
    rw [PV.res, ress_lb h.1, ress_lb h.2]
  | .loc l, h => by rw [PV.lb, decide_eq_true_eq] at h; rw [PV.res, if_pos h]
  | .non, _ => by rw [PV.res]
  | .bl _, _ => by rw [PV.res]
  | .int _, _ => by rw [PV.res]
  | .str _, _ => by rw [PV.res]
theorem ress_lb {b : Nat} {cs : Nat → Option Cell} : ∀ {xs : List PV}, lbs b xs = true → ress b cs xs = some xs
  | [], _ => by rw [ress]
  | x :: r, h => by
    rw [lbs, Bool.and_eq_true] at h
    rw [ress, PV.res_lb h.1, ress_lb h.2]
end
mutual
theorem PV.lb_mono {n m : Nat} (q : n ≤ m) : ∀ {v : PV}, v.lb n = true → v.lb m = true
  | .tup xs, h => by rw [PV.lb] at h ⊢; exact lbs_mono q h
  | .lst xs, h => by rw [PV.lb] at h ⊢; exact lbs_mono q h
  | .ro xs, h => by rw [PV.lb] at h ⊢; exact lbs_mono q h
  | .dct ks vs, h => by
    rw [PV.lb, Bool.and_eq_true] at h ⊢
    exact ⟨lbs_mono q h.1, lbs_mono q h.2⟩
  | .loc l, h => by
    rw [PV.lb, decide_eq_true_eq] at h ⊢
    omega
  | .non, _ => by rw [PV.lb]
  | .bl _, _ => by rw [PV.lb]
  | .int _, _ => by rw [PV.lb]
  | .str _, _ => by rw [PV.lb]
theorem lbs_mono {n m : Nat} (q : n ≤ m) : ∀ {xs : List PV}, lbs n xs = true → lbs m xs = true
  | [], _ => by rw [lbs]
  | x :: r, h => by
    rw [lbs, Bool.and_eq_true] at h ⊢
    exact ⟨PV.lb_mono q h.1, lbs_mono q h.2⟩
end
theorem lbs_all {n : Nat} : ∀ {xs : List PV}, lbs n xs = xs.all (PV.lb n)
  | [] => by rw [lbs]; rfl
  | x :: r => by rw [lbs, List.all_cons, lbs_all]
theorem lbs_append {n : Nat} {xs ys : List PV} : lbs n (xs ++ ys) = (lbs n xs && lbs n ys) := by
  rw [lbs_all, lbs_all, lbs_all, List.all_append]
theorem lbs_map {α : Type} {n : Nat} {f : α → PV} (h : ∀ a, (f a).lb n = true) (l : List α) : lbs n (l.map f) = true := by
  rw [lbs_all, List.all_map, List.all_eq_true]
  intro x _
  exact h x
theorem lb_int (n : Nat) (i : Int) : (PV.int i).lb n = true := by rw [PV.lb]
theorem lb_bl (n : Nat) (i : Bool) : (PV.bl i).lb n = true := by rw [PV.lb]
theorem lb_non (n : Nat) : PV.non.lb n = true := by rw [PV.lb]
theorem lb_str (n : Nat) (i : Str) : (PV.str i).lb n = true := by rw [PV.lb]
theorem lb_tup (n : Nat) (xs : List PV) : (PV.tup xs).lb n = lbs n xs := by rw [PV.lb]
theorem lb_lst (n : Nat) (xs : List PV) : (PV.lst xs).lb n = lbs n xs := by rw [PV.lb]
theorem lb_ro (n : Nat) (xs : List PV) : (PV.ro xs).lb n = lbs n xs := by rw [PV.lb]
theorem lb_loc (n l : Nat) : (PV.loc l).lb n = decide (l < n) := by rw [PV.lb]
theorem lbs_nil (n : Nat) : lbs n [] = true := by rw [lbs]
theorem lbs_cons (n : Nat) (x : PV) (r : List PV) : lbs n (x :: r) = (x.lb n && lbs n r) := by rw [lbs]

/-! ### what pieces compute -/
abbrev Env := List (Option PV)
abbrev M (α : Type) := Sto → Option (α × Sto)
abbrev DE := Env → M PV
abbrev DT := Env → M Bool
abbrev DA := Env → M (List PV)
abbrev FSem := List PV → M PV
inductive Fl where
  | nx (e : Env) | rt (v : PV) | bk (e : Env) | ct (e : Env)
abbrev DS := Env → M Fl
/-- what a for walks: its items, and the place that must stand as it is -/
structure Its where
  items : List PV
  src : Option (Nat × Cell)
abbrev DI := Env → M Its

def mb {α β : Type} (m : Option (α × Sto)) (f : α → Sto → Option (β × Sto)) : Option (β × Sto) := match m with
  | some (a, st) => f a st
  | none => none
theorem mb_some {α β : Type} {a : α} {st : Sto} {f : α → Sto → Option (β × Sto)} : mb (some (a, st)) f = f a st := rfl
theorem mb_eq {α β : Type} {m : Option (α × Sto)} {f : α → Sto → Option (β × Sto)} {b : β} {st : Sto} (h : mb m f = some (b, st)) : ∃ a st1, m = some (a, st1) ∧ f a st1 = some (b, st) := by
  cases m with
  | none => cases h
  | some p => exact ⟨p.1, p.2, rfl, h⟩

def dVar (i : Nat) : DE := fun env st => match env[i]? with
  | some (some v) => some (v, st)
  | _ => none
def dCst (v : PV) : DE := fun _ st => some (v, st)
/-- a list that nobody changes any more -/
def frzL (v : PV) (st : Sto) : Option (PV × Sto) := match v with
  | .loc l => match st.cs l with
    | some (.lst xs) => some (.lst xs, st.kill l)
    | _ => none
  | _ => none
def dFrz (i : Nat) : DE := fun env st => mb (dVar i env st) frzL
def dBin (f : PV → PV → M PV) (a b : DE) : DE := fun env st => mb (a env st) fun x st1 => mb (b env st1) fun y st2 => f x y st2
def dUn (f : PV → M PV) (a : DE) : DE := fun env st => mb (a env st) fun x st1 => f x st1
def aNil : DA := fun _ st => some ([], st)
def aCons (a : DE) (r : DA) : DA := fun env st => mb (a env st) fun x st1 => mb (r env st1) fun xs st2 => some (x :: xs, st2)
/-- a call of what is known by values -/
def dApp (f : FSem) (a : DA) : DE := fun env st => mb (a env st) fun xs st1 => f xs st1

def seqOf (st : Sto) : PV → Option (List PV)
  | .tup xs => some xs
  | .lst xs => some xs
  | .ro xs => some xs
  | .loc l => match st.cs l with
    | some (.lst xs) => some xs
    | _ => none
  | _ => none
/-- lists alone -/
def lstOf (st : Sto) : PV → Option (List PV)
  | .lst xs => some xs
  | .loc l => match st.cs l with
    | some (.lst xs) => some xs
    | _ => none
  | _ => none
/-- a new list: m if it may change later -/
def mkL (m : Bool) (xs : List PV) : M PV := fun st =>
  if xs.length ≤ sizeLine then
    if m then (if lbs 0 xs then some (.loc st.nxt, st.alloc (.lst xs)) else none)
    else some (.lst xs, st)
  else none
def mkT (xs : List PV) : M PV := fun st => if xs.length ≤ sizeLine then some (.tup xs, st) else none
def dTup (a : DA) : DE := dApp mkT a
def dLst (m : Bool) (a : DA) : DE := dApp (mkL m) a

/-! operators -/
def opAdd (m : Bool) : PV → PV → M PV
  | .int a, .int b, st => some (.int (a + b), st)
  | .str a, .str b, st => if a.length + b.length ≤ sizeLine then some (.str (a ++ b), st) else none
  | .tup a, .tup b, st => if a.length + b.length ≤ sizeLine then some (.tup (a ++ b), st) else none
  | x, y, st => match lstOf st x, lstOf st y with
    | some a, some b => mkL m (a ++ b) st
    | _, _ => none
def opSub : PV → PV → M PV
  | .int a, .int b, st => some (.int (a - b), st)
  | _, _, _ => none
/-! bounds, opened by their lemmas alone -/
@[irreducible] def okMul (a b : Int) : Bool := decide ((-(2 ^ 64) < a ∧ a < 2 ^ 64) ∨ (-(2 ^ 64) < b ∧ b < 2 ^ 64))
theorem okMul_iff {a b : Int} : okMul a b = true ↔ ((-(2 ^ 64) < a ∧ a < 2 ^ 64) ∨ (-(2 ^ 64) < b ∧ b < 2 ^ 64)) := by unfold okMul; exact decide_eq_true_iff
@[irreducible] def okMod (b : Int) : Bool := decide (0 < b)
theorem okMod_iff {b : Int} : okMod b = true ↔ 0 < b := by unfold okMod; exact decide_eq_true_iff
@[irreducible] def okDiv (b : Int) : Bool := decide (0 < b ∧ b < 1073741824)
theorem okDiv_iff {b : Int} : okDiv b = true ↔ (0 < b ∧ b < 1073741824) := by unfold okDiv; exact decide_eq_true_iff
@[irreducible] def okPow (a b : Int) : Bool := decide (0 ≤ b ∧ b ≤ 1000000 ∧ a.natAbs < 2 ^ 64)
theorem okPow_iff {a b : Int} : okPow a b = true ↔ (0 ≤ b ∧ b ≤ 1000000 ∧ a.natAbs < 2 ^ 64) := by unfold okPow; exact decide_eq_true_iff
@[irreducible] def okRng (a : Int) : Bool := decide (-(2 ^ 62) ≤ a ∧ a < 2 ^ 62)
theorem okRng_iff {a : Int} : okRng a = true ↔ (-(2 ^ 62) ≤ a ∧ a < 2 ^ 62) := by unfold okRng; exact decide_eq_true_iff
@[irreducible] def okLen (n : Nat) : Bool := decide (n ≤ sizeLine)
theorem okLen_iff {n : Nat} : okLen n = true ↔ n ≤ sizeLine := by unfold okLen; exact decide_eq_true_iff
@[irreducible] def okRep (n : Nat) (k : Int) : Bool := decide (0 < n ∧ n ≤ 1000 ∧ 0 ≤ k ∧ k ≤ 1000)
theorem okRep_iff {n : Nat} {k : Int} : okRep n k = true ↔ (0 < n ∧ n ≤ 1000 ∧ 0 ≤ k ∧ k ≤ 1000) := by unfold okRep; exact decide_eq_true_iff
def opMul : PV → PV → M PV
  | .int a, .int b, st => if okMul a b then some (.int (a * b), st) else none
  | .tup xs, .int k, st => if okRep xs.length k then some (.tup (List.replicate k.toNat xs).flatten, st) else none
  | _, _, _ => none
def opMod : PV → PV → M PV
  | .int a, .int b, st => if okMod b then some (.int (a % b), st) else none
  | _, _, _ => none
def opDiv : PV → PV → M PV
  | .int a, .int b, st => if okDiv b then some (.int (a / b), st) else none
  | _, _, _ => none
def opPow : PV → PV → M PV
  | .int a, .int b, st => if okPow a b then some (.int (a ^ b.toNat), st) else none
  | _, _, _ => none
def opNeg : PV → M PV
  | .int a, st => some (.int (-a), st)
  | _, _ => none
def opNot : PV → M PV
  | .bl a, st => some (.bl (!a), st)
  | _, _ => none

/-! comparisons -/
def cmpI (p : Int → Int → Bool) : PV → PV → M PV
  | .int a, .int b, st => some (.bl (p a b), st)
  | _, _, _ => none
mutual
/-- as the library's data -/
def PV.toD (cs : Nat → Option Cell) : PV → Option PyData
  | .non => some .none
  | .bl b => some (.bool b)
  | .int i => some (.int i)
  | .str x => some (.str x)
  | .tup xs => (toDs cs xs).map .tuple
  | .lst xs => (toDs cs xs).map .list
  | .ro xs => (toDs cs xs).map .list
  | .dct _ _ => none
  | .loc _ => none
def toDs (cs : Nat → Option Cell) : List PV → Option (List PyData)
  | [] => some []
  | x :: r => match x.toD cs, toDs cs r with
    | some d, some ds => some (d :: ds)
    | _, _ => none
end
/-- a place is told by its items -/
def derf (st : Sto) : PV → PV
  | .loc l => match st.cs l with
    | some c => c.val
    | none => .loc l
  | v => v
def cmpEq (neg : Bool) : PV → PV → M PV := fun x y st =>
  match (derf st x).toD st.cs, (derf st y).toD st.cs with
  | some d, some e => if SeqAt.shaped d && SeqAt.shaped e then some (.bl (PyData.eqv d e != neg), st) else none
  | _, _ => none
def flatP : PV → Bool
  | .non => true
  | .bl _ => true
  | .int _ => true
  | .str _ => true
  | _ => false
def eqP : PV → PV → Bool
  | .non, .non => true
  | .bl a, .bl b => a == b
  | .bl a, .int b => (if a then 1 else 0) == b
  | .int a, .bl b => a == (if b then 1 else 0)
  | .int a, .int b => a == b
  | .str a, .str b => a == b
  | _, _ => false
def cmpIn (neg : Bool) : PV → PV → M PV := fun x y st =>
  match seqOf st y with
  | some ys => if flatP x && ys.all flatP then some (.bl (ys.any (fun z => eqP z x) != neg), st) else
    match lstOf st y with
    | some ys => match (derf st x).toD st.cs, toDs st.cs ys with
      | some d, some ds => if SeqAt.shaped d && SeqAt.shaped (.list ds) then some (.bl ((ds.any fun z => PyData.eqv z d) != neg), st) else none
      | _, _ => none
    | none => none
  | none => none
def isNonP : PV → Bool
  | .non => true
  | _ => false
def cmpIsN (neg : Bool) : PV → M PV := fun x st => some (.bl (isNonP x != neg), st)

/-! subscripts -/
def opIx : PV → PV → M PV
  | x, .int i, st => match seqOf st x with
    | some xs => (atI xs i).map fun v => (v, st)
    | none => none
  | _, _, _ => none
def intO : PV → Option (Option Int)
  | .int i => some (some i)
  | _ => none
def cutP (xs : List PV) (lo hi : Option Int) : List PV := (xs.drop (HT.sIx xs.length 0 lo)).take (HT.sIx xs.length xs.length hi - HT.sIx xs.length 0 lo)
abbrev DO := Env → M (Option Int)
def oNone : DO := fun _ st => some (none, st)
def oSome (a : DE) : DO := fun env st => mb (a env st) fun x st1 => match x with
  | .int i => some (some i, st1)
  | _ => none
def dSl (m : Bool) (a : DE) (lo hi : DO) : DE := fun env st => mb (a env st) fun x st1 => mb (lo env st1) fun l st2 => mb (hi env st2) fun h st3 => match x with
  | .tup xs => some (.tup (cutP xs l h), st3)
  | x => match lstOf st3 x with
    | some xs => mkL m (cutP xs l h) st3
    | none => none

/-! calls of built-ins -/
def bLen : FSem
  | [.str x], st => if x.length ≤ sizeLine then some (.int x.length, st) else none
  | [x], st => match seqOf st x with
    | some xs => some (.int xs.length, st)
    | none => none
  | _, _ => none
def bAbs : FSem
  | [.int i], st => some (.int (if i < 0 then -i else i), st)
  | _, _ => none
def bInt : FSem
  | [.int i], st => some (.int i, st)
  | [.bl k], st => some (.int (if k then 1 else 0), st)
  | _, _ => none
def maxL : List Int → Int
  | [] => 0
  | [x] => x
  | x :: r => max x (maxL r)
def minL : List Int → Int
  | [] => 0
  | [x] => x
  | x :: r => min x (minL r)
def intsOf : List PV → Option (List Int)
  | [] => some []
  | .int i :: r => (intsOf r).map (i :: ·)
  | _ => none
def bMax : FSem
  | [.int i, .int j], st => some (.int (if j > i then j else i), st)
  | [.int i, .int j, .int k], st => some (.int (if j > i then (if k > j then k else j) else (if k > i then k else i)), st)
  | [x], st => match lstOf st x with
    | some xs => match intsOf xs with
      | some (i :: r) => some (.int (maxL (i :: r)), st)
      | _ => none
    | none => none
  | _, _ => none
def bMin : FSem
  | [.int i, .int j], st => some (.int (if j < i then j else i), st)
  | [.int i, .int j, .int k], st => some (.int (if j < i then (if k < j then k else j) else (if k < i then k else i)), st)
  | [x], st => match lstOf st x with
    | some xs => match intsOf xs with
      | some (i :: r) => some (.int (minL (i :: r)), st)
      | _ => none
    | none => none
  | _, _ => none
def bTuple : FSem
  | [.tup xs], st => some (.tup xs, st)
  | [x], st => match lstOf st x with
    | some xs => mkT xs st
    | none => none
  | _, _ => none
def bList (m : Bool) : FSem
  | [x], st => match seqOf st x with
    | some xs => mkL m xs st
    | none => none
  | _, _ => none
def sortI (l : List Int) : List Int := l.mergeSort (fun a b => decide (a ≤ b))
/-- x < y: ints or tuples of ints -/
def cmpLt : PV → PV → M PV
  | .int a, .int b, st => some (.bl (decide (a < b)), st)
  | .tup xs, .tup ys, st => match intsOf xs, intsOf ys with
    | some ns, some ms => some (.bl (HT.lexLt ns ms), st)
    | _, _ => none
  | _, _, _ => none
/-- tuples of ints: their order, without the doubles -/
def lexLe (a b : List Int) : Bool := !HT.lexLt b a
def sortT (ks : List (List Int)) : List (List Int) := ks.mergeSort lexLe
def uniqT : List (List Int) → List (List Int)
  | [] => []
  | k :: r => if k ∈ r then uniqT r else k :: uniqT r
def tupsOf : List PV → Option (List (List Int))
  | [] => some []
  | .tup xs :: r => match intsOf xs, tupsOf r with
    | some ns, some ks => some (ns :: ks)
    | _, _ => none
  | _ => none
def tupP (k : List Int) : PV := .tup (k.map .int)
@[irreducible] def bTup : Int := 1000000000000
open Classical in
@[irreducible] noncomputable def okTs (ks : List (List Int)) : Bool := decide (ks.length < 64 ∧ ∃ d, 1 ≤ d ∧ ∀ k ∈ ks, k.length = d ∧ TS.Bd bTup k)
open Classical in
theorem okTs_iff {ks : List (List Int)} : okTs ks = true ↔ (ks.length < 64 ∧ ∃ d, 1 ≤ d ∧ ∀ k ∈ ks, k.length = d ∧ TS.Bd bTup k) := by unfold okTs; exact decide_eq_true_iff
noncomputable def bSorted (m : Bool) : FSem
  | [x], st => match lstOf st x with
    | some xs => match intsOf xs with
      | some ns => if ns.length < 64 then mkL m ((sortI ns).map .int) st else none
      | none => match tupsOf xs with
        | some ks => if okTs ks then mkL m ((sortT ks).map tupP) st else none
        | none => none
    | none => none
  | _, _ => none
/-- sorted(set(x)) -/
noncomputable def bSortedSet (m : Bool) : FSem
  | [x], st => match lstOf st x with
    | some xs => match tupsOf xs with
      | some ks => if okTs ks then mkL m ((sortT (uniqT ks)).map tupP) st else none
      | none => none
    | none => none
  | _, _ => none
inductive BTy where
  | int | bool | str | list | tuple | dict
  deriving DecidableEq
def BTy.name : BTy → Str
  | .int => "int" | .bool => "bool" | .str => "str" | .list => "list" | .tuple => "tuple" | .dict => "dict"
def BTy.nameS : BTy → String
  | .int => "int" | .bool => "bool" | .str => "str" | .list => "list" | .tuple => "tuple" | .dict => "dict"
def isTy (t : BTy) (st : Sto) : PV → Option Bool
  | .non => some false
  | .bl _ => some (t == .bool || t == .int)
  | .int _ => some (t == .int)
  | .str _ => some (t == .str)
  | .tup _ => some (t == .tuple)
  | .lst _ => some (t == .list)
  | .ro _ => none
  | .dct _ _ => none
  | .loc l => match st.cs l with
    | some (.lst _) => some (t == .list)
    | _ => none
def bIsi (t : BTy) : PV → M PV := fun x st => (isTy t st x).map fun b => (.bl b, st)

/-! methods of lists -/
def asL (x : PV) (st : Sto) : Option (Nat × Sto) := match x with
  | .loc l => match st.cs l with
    | some (.lst _) => some (l, st)
    | _ => none
  | _ => none
theorem asL_eq {x : PV} {st st' : Sto} {l : Nat} (h : asL x st = some (l, st')) : x = .loc l ∧ st = st' ∧ ∃ xs, st.cs l = some (.lst xs) := by
  unfold asL at h
  split at h
  · split at h
    · rename_i hl
      cases h
      exact ⟨rfl, rfl, _, hl⟩
    · cases h
  · cases h
def dMetL (f : Nat → FSem) (o : DE) (a : DA) : DE := fun env st => mb (o env st) fun x st1 => mb (asL x st1) fun l st2 => mb (a env st2) fun xs st3 => f l xs st3
def mAppend (l : Nat) : FSem
  | [y], st => match st.cs l with
    | some (.lst xs) => if xs.length < sizeLine && y.lb 0 then some (.non, st.set l (.lst (xs ++ [y]))) else none
    | _ => none
  | _, _ => none
def mPop (l : Nat) : FSem
  | [], st => match st.cs l with
    | some (.lst xs) => match xs[xs.length - 1]? with
      | some y => some (y, st.set l (.lst xs.dropLast))
      | none => none
    | _ => none
  | _, _ => none
def mReverse (l : Nat) : FSem
  | [], st => match st.cs l with
    | some (.lst xs) => some (.non, st.set l (.lst xs.reverse))
    | _ => none
  | _, _ => none

/-! calls of the text's own defs -/
/-- behind a def: what it made and does not hand back is dropped -/
def fin (b : Nat) (v : PV) (st : Sto) : Option (PV × Sto) := match v with
  | .loc l => if l < b then some (.loc l, st.restr b) else (st.cs l).map fun c => (.loc b, (st.restr b).alloc c)
  | v => (v.res b st.cs).map fun v' => (v', st.restr b)
def settle (b : Nat) (v : PV) (st : Sto) : Option (PV × Sto) := (v.res b st.cs).map fun v' => (v', st.restr b)
def dCall (f : FSem) (adopt : Bool) (a : DA) : DE := fun env st => mb (a env st) fun xs st1 => mb (f xs st1) fun v st2 =>
  if adopt then some (v, st2) else settle st1.nxt v st2
/-- a def: its body over its slots -/
def runF (n : Nat) (np : Nat) (d : DS) : FSem := fun args st =>
  if args.length = np then
    match d (args.map some ++ List.replicate (n - args.length) none) st with
    | some (.rt v, st1) => fin st.nxt v st1
    | some (.nx _, st1) => fin st.nxt .non st1
    | _ => none
  else none

/-! tests -/
def asB (x : PV) (st : Sto) : Option (Bool × Sto) := match x with
  | .bl b => some (b, st)
  | _ => none
theorem asB_eq {x : PV} {st st' : Sto} {b : Bool} (h : asB x st = some (b, st')) : x = .bl b ∧ st = st' := by
  unfold asB at h
  split at h
  · cases h; exact ⟨rfl, rfl⟩
  · cases h
theorem asB_bl {b : Bool} {st : Sto} : asB (.bl b) st = some (b, st) := rfl
def tVal (a : DE) : DT := fun env st => mb (a env st) asB
def tAnd (a b : DT) : DT := fun env st => mb (a env st) fun x st1 => if x then b env st1 else some (false, st1)
def tOr (a b : DT) : DT := fun env st => mb (a env st) fun x st1 => if x then some (true, st1) else b env st1
def tNot (a : DT) : DT := fun env st => mb (a env st) fun x st1 => some (!x, st1)
def dAnd (a b : DE) : DE := fun env st => mb (a env st) fun x st1 => mb (asB x st1) fun k st2 => if k then b env st2 else some (.bl false, st2)
def dOr (a b : DE) : DE := fun env st => mb (a env st) fun x st1 => mb (asB x st1) fun k st2 => if k then some (.bl true, st2) else b env st2
def dIte (t : DT) (a b : DE) : DE := fun env st => mb (t env st) fun x st1 => if x then a env st1 else b env st1
def dChain (f g : PV → PV → M PV) (a b c : DE) : DE := fun env st => mb (a env st) fun x st1 => mb (b env st1) fun y st2 => mb (f x y st2) fun r st3 => mb (asB r st3) fun k st4 =>
  if k then mb (c env st4) fun z st5 => g y z st5 else some (.bl false, st4)

/-! what is walked -/
def itsOf (x : PV) (st : Sto) : Option (Its × Sto) := match x with
  | .lst xs => some (⟨xs, none⟩, st)
  | .tup xs => some (⟨xs, none⟩, st)
  | .loc l => match st.cs l with
    | some (.lst xs) => some (⟨xs, some (l, .lst xs)⟩, st)
    | _ => none
  | _ => none
def iSeq (a : DE) : DI := fun env st => mb (a env st) itsOf
/-- reversed(x), x a list that nobody changes -/
def itsRev (x : PV) (st : Sto) : Option (Its × Sto) := match x with
  | .lst xs => some (⟨xs.reverse, none⟩, st)
  | _ => none
def iRev (a : DE) : DI := fun env st => mb (a env st) itsRev
def rng (lo hi : Int) : List PV := (List.range (hi - lo).toNat).map fun (k : Nat) => PV.int (lo + (k : Int))
def asI (x : PV) (st : Sto) : Option (Int × Sto) := match x with
  | .int n => some (n, st)
  | _ => none
theorem asI_eq {x : PV} {st st' : Sto} {n : Int} (h : asI x st = some (n, st')) : x = .int n ∧ st = st' := by
  unfold asI at h
  split at h
  · cases h; exact ⟨rfl, rfl⟩
  · cases h
def iRng1 (a : DE) : DI := fun env st => mb (a env st) fun x st1 => mb (asI x st1) fun n st2 => if okRng n then some (⟨rng 0 n, none⟩, st2) else none
def iRng2 (a b : DE) : DI := fun env st => mb (a env st) fun x st1 => mb (b env st1) fun y st2 => mb (asI x st2) fun i st3 => mb (asI y st3) fun j st4 => if okRng i && okRng j then some (⟨rng i j, none⟩, st4) else none
def Its.ok (its : Its) (st : Sto) : Prop := match its.src with
  | none => True
  | some (l, c) => st.cs l = some c
theorem itsOf_lst {st : Sto} {v : PV} {xs : List PV} (h : lstOf st v = some xs) : ∃ src, itsOf v st = some (⟨xs, src⟩, st) ∧ ∀ s : Sto, (∀ l, v = .loc l → s.cs l = st.cs l) → (Its.mk xs src).ok s := by
  unfold lstOf at h
  split at h
  · cases h; exact ⟨none, rfl, fun _ _ => trivial⟩
  · rename_i l
    split at h
    · rename_i ys hl
      cases h
      refine ⟨some (l, .lst xs), ?_, fun s k => ?_⟩
      · show (match st.cs l with | some (.lst xs) => some (Its.mk xs (some (l, .lst xs)), st) | _ => none) = _
        rw [hl]
      · show s.cs l = _
        rw [k l rfl, hl]
    · cases h
  · cases h

/-! targets -/
abbrev DG := PV → Env → M Env
def gName (i : Nat) : DG := fun v env st => some (env.set i (some v), st)
def gList : List DG → List PV → Env → M Env
  | [], [], env, st => some (env, st)
  | g :: gs, v :: vs, env, st => mb (g v env st) fun e1 s1 => gList gs vs e1 s1
  | _, _, _, _ => none
def gTup (gs : List DG) : DG := fun v env st => match v with
  | .tup xs => gList gs xs env st
  | _ => none
def setL : PV → PV → PV → Sto → Option Sto
  | .loc l, .int i, v, st => match st.cs l with
    | some (.lst xs) => match ixN xs.length i with
      | some j => if v.lb 0 then some (st.set l (.lst (xs.set j v))) else none
      | none => none
    | _ => none
  | _, _, _, _ => none
/-- o[i] = v -/
def gSub (o i : DE) : DG := fun v env st => mb (o env st) fun x st1 => mb (i env st1) fun y st2 => (setL x y v st2).map fun s => (env, s)

/-! comprehensions -/
def wipeE (env : Env) : List Nat → Env
  | [] => env
  | v :: vs => (wipeE env vs).set v none
open Classical in
noncomputable def lcGo (its : Its) (g : DG) (t : DT) (e : DE) (env : Env) : List PV → Sto → Option (List PV × Sto)
  | [], st => if its.ok st then some ([], st) else none
  | x :: r, st => if its.ok st then
      mb (g x env st) fun env1 st1 => mb (t env1 st1) fun b st2 =>
        if b then mb (e env1 st2) fun y st3 => mb (lcGo its g t e env r st3) fun ys st4 => some (y :: ys, st4)
        else lcGo its g t e env r st2
    else none
noncomputable def dLc (m : Bool) (vs : List Nat) (i : DI) (g : DG) (t : DT) (e : DE) : DE := fun env st =>
  mb (i env st) fun its st1 => mb (lcGo its g t e (wipeE env vs) its.items st1) fun ys st2 => mkL m ys st2
def tYes : DT := fun _ st => some (true, st)

/-! statements -/
def sPass : DS := fun env st => some (.nx env, st)
def sBreak : DS := fun env st => some (.bk env, st)
def sCont : DS := fun env st => some (.ct env, st)
def sSeq (a b : DS) : DS := fun env st => mb (a env st) fun f st1 => match f with
  | .nx e => b e st1
  | f => some (f, st1)
def sAsg (a : DE) (g : DG) : DS := fun env st => mb (a env st) fun x st1 => mb (g x env st1) fun e st2 => some (.nx e, st2)
def sAug (f : PV → PV → M PV) (i : Nat) (a : DE) : DS := fun env st => match env[i]? with
  | some (some x) => mb (a env st) fun y st1 => mb (f x y st1) fun z st2 => some (.nx (env.set i (some z)), st2)
  | _ => none
def sExpr (a : DE) : DS := fun env st => mb (a env st) fun _ st1 => some (.nx env, st1)
def sRet (a : DE) : DS := fun env st => mb (a env st) fun x st1 => some (.rt x, st1)
def sRetN : DS := fun _ st => some (.rt .non, st)
def sIf (t : DT) (a b : DS) : DS := fun env st => mb (t env st) fun x st1 => if x then a env st1 else b env st1
open Classical in
noncomputable def forGo (its : Its) (g : DG) (d : DS) : List PV → Env → Sto → Option (Fl × Sto)
  | [], env, st => if its.ok st then some (.nx env, st) else none
  | x :: r, env, st => if its.ok st then
      mb (g x env st) fun env1 st1 => mb (d env1 st1) fun f st2 => match f with
        | .nx e => forGo its g d r e st2
        | .ct e => forGo its g d r e st2
        | .bk e => some (.nx e, st2)
        | .rt v => some (.rt v, st2)
    else none
noncomputable def sFor (i : DI) (g : DG) (d : DS) : DS := fun env st => mb (i env st) fun its st1 => forGo its g d its.items env st1
def whGo (t : DT) (d : DS) : Nat → Env → Sto → Option (Fl × Sto)
  | 0, _, _ => none
  | n + 1, env, st => mb (t env st) fun b st1 => if b then mb (d env st1) fun f st2 => match f with
        | .nx e => whGo t d n e st2
        | .ct e => whGo t d n e st2
        | .bk e => some (.nx e, st2)
        | .rt v => some (.rt v, st2)
      else some (.nx env, st1)
def sWhile (t : DT) (d : DS) : DS := fun env st => whGo t d 100000 env st
end DL

/-! DL1: how the values of DL0 lie in a heap; worlds and their steps. -/
namespace DL
open PySem PySem.Spec PyProof.Rows L2

mutual
def RelP (K : PySem.W.Frag) (F : Hp) (ρ : Nat → Addr) (n : Nat) : PV → V → Prop
  | .non, v => v = .non
  | .bl b, v => v = .bl b
  | .int i, v => v = .int i
  | .str x, v => v = .str x
  | .tup xs, v => ∃ a vs, v = .ref a ∧ SqT K F a vs ∧ RelPs K F ρ n xs vs
  | .lst xs, v => ∃ a vs, v = .ref a ∧ F a = some (.lst vs) ∧ RelPs K F ρ n xs vs
  | .ro xs, v => ∃ a vs, v = .ref a ∧ SqL K F a vs ∧ RelPs K F ρ n xs vs
  | .dct _ _, _ => False
  | .loc l, v => l < n ∧ v = .ref (ρ l)
def RelPs (K : PySem.W.Frag) (F : Hp) (ρ : Nat → Addr) (n : Nat) : List PV → List V → Prop
  | [], vs => vs = []
  | x :: r, vs => ∃ w ws, vs = w :: ws ∧ RelP K F ρ n x w ∧ RelPs K F ρ n r ws
end
abbrev Sub (F F' : Hp) : Prop := ∀ a o, F a = some o → F' a = some o
theorem Sub.rd {F F' : Hp} {a : Addr} {u : HO} (s : Sub F F') (h : Rd F a u) : Rd F' a u := by
  rcases h with h | ⟨o, h⟩
  · exact .inl (s _ _ h)
  · exact .inr ⟨o, s _ _ h⟩
theorem Sub.sqT {K : PySem.W.Frag} {F F' : Hp} {a : Addr} {vs : List V} (s : Sub F F') (h : SqT K F a vs) : SqT K F' a vs := by
  rcases h with h | h
  · exact .inl (s.rd h)
  · exact .inr h
theorem Sub.sqL {K : PySem.W.Frag} {F F' : Hp} {a : Addr} {vs : List V} (s : Sub F F') (h : SqL K F a vs) : SqL K F' a vs := by
  rcases h with h | h
  · exact .inl (s.rd h)
  · exact .inr h
section
variable {K : PySem.W.Frag} {F F' : Hp} {ρ ρ' : Nat → Addr} {n n' m : Nat}
mutual
theorem RelP.mono (s : Sub F F') (hr : ∀ l, l < n → ρ' l = ρ l) (hn : n ≤ n') : ∀ {x : PV} {v : V}, RelP K F ρ n x v → RelP K F' ρ' n' x v
  | .non, _, h => by rw [RelP] at h ⊢; exact h
  | .bl _, _, h => by rw [RelP] at h ⊢; exact h
  | .int _, _, h => by rw [RelP] at h ⊢; exact h
  | .str _, _, h => by rw [RelP] at h ⊢; exact h
  | .tup xs, _, h => by
    rw [RelP] at h ⊢
    obtain ⟨a, vs, e, q, r⟩ := h
    exact ⟨a, vs, e, s.sqT q, RelPs.mono s hr hn r⟩
  | .lst xs, _, h => by
    rw [RelP] at h ⊢
    obtain ⟨a, vs, e, q, r⟩ := h
    exact ⟨a, vs, e, s _ _ q, RelPs.mono s hr hn r⟩
  | .ro xs, _, h => by
    rw [RelP] at h ⊢
    obtain ⟨a, vs, e, q, r⟩ := h
    exact ⟨a, vs, e, s.sqL q, RelPs.mono s hr hn r⟩
  | .dct _ _, _, h => by rw [RelP] at h; exact h.elim
  | .loc l, _, h => by
    rw [RelP] at h ⊢
    obtain ⟨q, e⟩ := h
    exact ⟨Nat.lt_of_lt_of_le q hn, by rw [hr l q]; exact e⟩
theorem RelPs.mono (s : Sub F F') (hr : ∀ l, l < n → ρ' l = ρ l) (hn : n ≤ n') : ∀ {xs : List PV} {vs : List V}, RelPs K F ρ n xs vs → RelPs K F' ρ' n' xs vs
  | [], _, h => by rw [RelPs] at h ⊢; exact h
  | x :: r, _, h => by
    rw [RelPs] at h ⊢
    obtain ⟨w, ws, e, h1, h2⟩ := h
    exact ⟨w, ws, e, RelP.mono s hr hn h1, RelPs.mono s hr hn h2⟩
end
mutual
/-- a value all whose places lie below m -/
theorem RelP.low (hr : ∀ l, l < m → ρ' l = ρ l) : ∀ {x : PV} {v : V}, x.lb m = true → RelP K F ρ n x v → RelP K F ρ' m x v
  | .non, _, _, h => by rw [RelP] at h ⊢; exact h
  | .bl _, _, _, h => by rw [RelP] at h ⊢; exact h
  | .int _, _, _, h => by rw [RelP] at h ⊢; exact h
  | .str _, _, _, h => by rw [RelP] at h ⊢; exact h
  | .tup xs, _, q, h => by
    rw [RelP] at h ⊢
    obtain ⟨a, vs, e, t, r⟩ := h
    exact ⟨a, vs, e, t, RelPs.low hr (by rw [PV.lb] at q; exact q) r⟩
  | .lst xs, _, q, h => by
    rw [RelP] at h ⊢
    obtain ⟨a, vs, e, t, r⟩ := h
    exact ⟨a, vs, e, t, RelPs.low hr (by rw [PV.lb] at q; exact q) r⟩
  | .ro xs, _, q, h => by
    rw [RelP] at h ⊢
    obtain ⟨a, vs, e, t, r⟩ := h
    exact ⟨a, vs, e, t, RelPs.low hr (by rw [PV.lb] at q; exact q) r⟩
  | .dct _ _, _, _, h => by rw [RelP] at h; exact h.elim
  | .loc l, _, q, h => by
    rw [RelP] at h ⊢
    rw [PV.lb, decide_eq_true_eq] at q
    exact ⟨q, by rw [hr l q]; exact h.2⟩
theorem RelPs.low (hr : ∀ l, l < m → ρ' l = ρ l) : ∀ {xs : List PV} {vs : List V}, lbs m xs = true → RelPs K F ρ n xs vs → RelPs K F ρ' m xs vs
  | [], _, _, h => by rw [RelPs] at h ⊢; exact h
  | x :: r, _, q, h => by
    rw [RelPs] at h ⊢
    rw [lbs, Bool.and_eq_true] at q
    obtain ⟨w, ws, e, h1, h2⟩ := h
    exact ⟨w, ws, e, RelP.low hr q.1 h1, RelPs.low hr q.2 h2⟩
end
theorem RelPs.free0 {xs : List PV} {vs : List V} (q : lbs 0 xs = true) (h : RelPs K F ρ n xs vs) : RelPs K F ρ' 0 xs vs := RelPs.low (fun _ z => absurd z (Nat.not_lt_zero _)) q h
theorem RelP.free0 {x : PV} {v : V} (q : x.lb 0 = true) (h : RelP K F ρ n x v) : RelP K F ρ' 0 x v := RelP.low (fun _ z => absurd z (Nat.not_lt_zero _)) q h
theorem RelPs.any {xs : List PV} {vs : List V} (h : RelPs K F ρ 0 xs vs) : RelPs K F ρ' n xs vs := RelPs.mono (fun _ _ z => z) (fun _ z => absurd z (Nat.not_lt_zero _)) (Nat.zero_le _) h
theorem RelP.any {x : PV} {v : V} (h : RelP K F ρ 0 x v) : RelP K F ρ' n x v := RelP.mono (fun _ _ z => z) (fun _ z => absurd z (Nat.not_lt_zero _)) (Nat.zero_le _) h
theorem RelPs.nil : RelPs K F ρ n [] [] := by rw [RelPs]
theorem RelPs.cons {x : PV} {v : V} {xs : List PV} {vs : List V} (h : RelP K F ρ n x v) (t : RelPs K F ρ n xs vs) : RelPs K F ρ n (x :: xs) (v :: vs) := by
  rw [RelPs]; exact ⟨v, vs, rfl, h, t⟩
theorem RelPs.inv {x : PV} {xs : List PV} {vs : List V} (h : RelPs K F ρ n (x :: xs) vs) : ∃ w ws, vs = w :: ws ∧ RelP K F ρ n x w ∧ RelPs K F ρ n xs ws := by
  rw [RelPs] at h; exact h
theorem RelPs.inv0 {vs : List V} (h : RelPs K F ρ n [] vs) : vs = [] := by rw [RelPs] at h; exact h
theorem RelPs.length : ∀ {xs : List PV} {vs : List V}, RelPs K F ρ n xs vs → xs.length = vs.length
  | [], _, h => by rw [h.inv0]; rfl
  | x :: r, _, h => by
    obtain ⟨w, ws, e, _, t⟩ := h.inv
    rw [e, List.length_cons, List.length_cons, RelPs.length t]
theorem RelPs.get : ∀ {xs : List PV} {vs : List V} {i : Nat} {x : PV}, RelPs K F ρ n xs vs → xs[i]? = some x → ∃ w, vs[i]? = some w ∧ RelP K F ρ n x w
  | [], _, _, _, _, e => by simp at e
  | y :: r, _, 0, x, h, e => by
    obtain ⟨w, ws, rfl, q, _⟩ := h.inv
    simp at e; subst e
    exact ⟨w, rfl, q⟩
  | y :: r, _, i + 1, x, h, e => by
    obtain ⟨w, ws, rfl, _, t⟩ := h.inv
    obtain ⟨u, h1, h2⟩ := RelPs.get (i := i) t (by simpa using e)
    exact ⟨u, by simpa using h1, h2⟩
theorem RelPs.append : ∀ {xs ys : List PV} {vs ws : List V}, RelPs K F ρ n xs vs → RelPs K F ρ n ys ws → RelPs K F ρ n (xs ++ ys) (vs ++ ws)
  | [], _, _, _, h, q => by rw [h.inv0]; exact q
  | x :: r, _, _, _, h, q => by
    obtain ⟨w, ws, rfl, h1, t⟩ := h.inv
    exact .cons h1 (RelPs.append t q)
theorem RelPs.set {x : PV} {v : V} (q : RelP K F ρ n x v) : ∀ {xs : List PV} {vs : List V} (i : Nat), RelPs K F ρ n xs vs → RelPs K F ρ n (xs.set i x) (vs.set i v)
  | [], _, _, h => by rw [h.inv0]; exact .nil
  | y :: r, _, 0, h => by
    obtain ⟨w, ws, rfl, _, t⟩ := h.inv
    exact .cons q t
  | y :: r, _, i + 1, h => by
    obtain ⟨w, ws, rfl, h1, t⟩ := h.inv
    exact .cons h1 (RelPs.set q i t)
theorem RelPs.take : ∀ {xs : List PV} {vs : List V} (i : Nat), RelPs K F ρ n xs vs → RelPs K F ρ n (xs.take i) (vs.take i)
  | _, _, 0, _ => by rw [List.take_zero, List.take_zero]; exact .nil
  | [], _, _ + 1, h => by rw [h.inv0]; exact .nil
  | y :: r, _, i + 1, h => by
    obtain ⟨w, ws, rfl, h1, t⟩ := h.inv
    exact .cons h1 (RelPs.take i t)
theorem RelPs.drop : ∀ {xs : List PV} {vs : List V} (i : Nat), RelPs K F ρ n xs vs → RelPs K F ρ n (xs.drop i) (vs.drop i)
  | _, _, 0, h => h
  | [], _, _ + 1, h => by rw [h.inv0]; exact .nil
  | y :: r, _, i + 1, h => by
    obtain ⟨w, ws, rfl, h1, t⟩ := h.inv
    exact RelPs.drop i t
theorem RelPs.reverse : ∀ {xs : List PV} {vs : List V}, RelPs K F ρ n xs vs → RelPs K F ρ n xs.reverse vs.reverse
  | [], _, h => by rw [h.inv0]; exact .nil
  | y :: r, _, h => by
    obtain ⟨w, ws, rfl, h1, t⟩ := h.inv
    rw [List.reverse_cons, List.reverse_cons]
    exact .append (RelPs.reverse t) (.cons h1 .nil)
theorem RelPs.dropLast {xs : List PV} {vs : List V} (h : RelPs K F ρ n xs vs) : RelPs K F ρ n xs.dropLast vs.dropLast := by
  rw [List.dropLast_eq_take, List.dropLast_eq_take, h.length]
  exact h.take _
theorem RelPs.replicate {xs : List PV} {vs : List V} (h : RelPs K F ρ n xs vs) : ∀ k : Nat, RelPs K F ρ n (List.replicate k xs).flatten (List.replicate k vs).flatten
  | 0 => .nil
  | k + 1 => by
    rw [List.replicate_succ, List.replicate_succ, List.flatten_cons, List.flatten_cons]
    exact .append h (RelPs.replicate h k)
theorem RelPs.ints : ∀ (ns : List Int), RelPs K F ρ n (ns.map .int) (ns.map V.int)
  | [] => .nil
  | i :: r => .cons (by rw [RelP]) (RelPs.ints r)
theorem RelPs.intsInv : ∀ {xs : List PV} {vs : List V} {ns : List Int}, intsOf xs = some ns → RelPs K F ρ n xs vs → vs = ns.map V.int
  | [], _, _, e, h => by
    rw [intsOf] at e; cases e
    rw [h.inv0]; rfl
  | .int i :: r, _, _, e, h => by
    rw [intsOf] at e
    cases q : intsOf r with
    | none => rw [q] at e; cases e
    | some l =>
      rw [q] at e; cases e
      obtain ⟨w, ws, rfl, h1, t⟩ := h.inv
      rw [RelP] at h1
      rw [h1, RelPs.intsInv q t]; rfl
  | .non :: r, _, _, e, h => by rw [intsOf] at e <;> (try cases e) <;> (intro _ _ z; cases z)
  | .bl _ :: r, _, _, e, h => by rw [intsOf] at e <;> (try cases e) <;> (intro _ _ z; cases z)
  | .str _ :: r, _, _, e, h => by rw [intsOf] at e <;> (try cases e) <;> (intro _ _ z; cases z)
  | .tup _ :: r, _, _, e, h => by rw [intsOf] at e <;> (try cases e) <;> (intro _ _ z; cases z)
  | .lst _ :: r, _, _, e, h => by rw [intsOf] at e <;> (try cases e) <;> (intro _ _ z; cases z)
  | .ro _ :: r, _, _, e, h => by rw [intsOf] at e <;> (try cases e) <;> (intro _ _ z; cases z)
  | .dct _ _ :: r, _, _, e, h => by rw [intsOf] at e <;> (try cases e) <;> (intro _ _ z; cases z)
  | .loc _ :: r, _, _, e, h => by rw [intsOf] at e <;> (try cases e) <;> (intro _ _ z; cases z)
end

/-! ### worlds -/
def CRel (K : PySem.W.Frag) (F : Hp) : Cell → Option HO → Prop
  | .lst xs, o => ∃ vs, o = some (.lst vs) ∧ RelPs K F (fun _ => 0) 0 xs vs
  | .dct _ _, _ => False
theorem CRel.mono {K : PySem.W.Frag} {F F' : Hp} {c : Cell} {o : Option HO} (s : Sub F F') (h : CRel K F c o) : CRel K F' c o := by
  cases c with
  | lst xs =>
    obtain ⟨vs, e, r⟩ := h
    exact ⟨vs, e, r.mono s (fun _ _ => rfl) (Nat.le_refl _)⟩
  | dct _ _ => exact h
theorem CRel.some' {K : PySem.W.Frag} {F : Hp} {c : Cell} {o : Option HO} (h : CRel K F c o) : ∃ u, o = some u := by
  cases c with
  | lst xs => obtain ⟨vs, e, _⟩ := h; exact ⟨_, e⟩
  | dct _ _ => exact h.elim
structure Wld (K : PySem.W.Frag) (F : Hp) (ρ : Nat → Addr) (st : Sto) (H : Hp) : Prop where
  sub : Sub F H
  cell : ∀ l c, st.cs l = some c → F (ρ l) = none ∧ CRel K F c (H (ρ l))
  inj : ∀ l l' c c', st.cs l = some c → st.cs l' = some c' → ρ l = ρ l' → l = l'
structure Pst (K : PySem.W.Frag) (F : Hp) (ρ : Nat → Addr) (st : Sto) (H : Hp) (F' : Hp) (ρ' : Nat → Addr) (st' : Sto) (H' : Hp) : Prop where
  ex : Sub F F'
  rho : ∀ l, l < st.nxt → ρ' l = ρ l
  nxt : st.nxt ≤ st'.nxt
  wld : Wld K F' ρ' st' H'
  live : ∀ l c, l < st.nxt → st'.cs l = some c → ∃ c0, st.cs l = some c0
  fresh : ∀ l c, st.nxt ≤ l → st'.cs l = some c → H (ρ' l) = none
  ext : ∀ a o, H a = some o → (∀ l c, st.cs l = some c → ρ l ≠ a) → H' a = some o
  dom : ∀ a o, H a = some o → ∃ o', H' a = some o'
  fz : ∀ a o, F' a = some o → F a = some o ∨ H a = none ∨ ∃ l c, st.cs l = some c ∧ ρ l = a
section
variable {K : PySem.W.Frag} {F F1 F2 : Hp} {ρ ρ1 ρ2 : Nat → Addr} {st st1 st2 : Sto} {H H1 H2 : Hp}
theorem Pst.refl (w : Wld K F ρ st H) : Pst K F ρ st H F ρ st H :=
  ⟨fun _ _ z => z, fun _ _ => rfl, Nat.le_refl _, w, fun l c _ z => ⟨c, z⟩, fun l c q z => absurd (Sto.lt_of z) (Nat.not_lt.mpr q), fun _ _ z _ => z, fun _ o z => ⟨o, z⟩, fun _ _ z => .inl z⟩
theorem Pst.trans (a : Pst K F ρ st H F1 ρ1 st1 H1) (b : Pst K F1 ρ1 st1 H1 F2 ρ2 st2 H2) : Pst K F ρ st H F2 ρ2 st2 H2 where
  ex := fun x o z => b.ex x o (a.ex x o z)
  rho := fun l q => (b.rho l (Nat.lt_of_lt_of_le q a.nxt)).trans (a.rho l q)
  nxt := Nat.le_trans a.nxt b.nxt
  wld := b.wld
  live := fun l c q z => by
    obtain ⟨c1, h1⟩ := b.live l c (Nat.lt_of_lt_of_le q a.nxt) z
    exact a.live l c1 q h1
  fresh := fun l c q z => by
    by_cases h : l < st1.nxt
    · obtain ⟨c1, h1⟩ := b.live l c h z
      rw [b.rho l h]
      exact a.fresh l c1 q h1
    · have h2 := b.fresh l c (Nat.not_lt.mp h) z
      cases e : H (ρ2 l) with
      | none => rfl
      | some o =>
        obtain ⟨o', h3⟩ := a.dom _ _ e
        rw [h2] at h3; cases h3
  ext := fun x o z q => by
    refine b.ext x o (a.ext x o z q) fun l c h1 e => ?_
    by_cases h : l < st.nxt
    · obtain ⟨c0, h0⟩ := a.live l c h h1
      exact q l c0 h0 (by rw [← a.rho l h]; exact e)
    · have := a.fresh l c (Nat.not_lt.mp h) h1
      rw [e, z] at this; cases this
  dom := fun x o z => by
    obtain ⟨o1, h1⟩ := a.dom x o z
    exact b.dom x o1 h1
  fz := fun x o z => by
    have gone : H1 x = none → H x = none := fun h => by
      cases e : H x with
      | none => rfl
      | some u =>
        obtain ⟨o', h3⟩ := a.dom _ _ e
        rw [h] at h3; cases h3
    rcases b.fz x o z with h | h | ⟨l, c, h, e⟩
    · exact a.fz x o h
    · exact .inr (.inl (gone h))
    · by_cases q : l < st.nxt
      · obtain ⟨c0, h0⟩ := a.live l c q h
        exact .inr (.inr ⟨l, c0, h0, by rw [← a.rho l q]; exact e⟩)
      · refine .inr (.inl ?_)
        rw [← e]
        exact a.fresh l c (Nat.not_lt.mp q) h
theorem Wld.ne (w : Wld K F ρ st H) {l : Nat} {c : Cell} {p : Addr} (h : st.cs l = some c) (hp : H p = none) : ρ l ≠ p := fun e => by
  obtain ⟨u, hu⟩ := (w.cell l c h).2.some'
  rw [e, hp] at hu; cases hu
/-- a new thing that nobody changes -/
theorem Wld.new (w : Wld K F ρ st H) {p : Addr} {o : HO} (hp : H p = none) : Pst K F ρ st H (upd F p o) ρ st (upd H p o) := by
  have fp : F p = none := by
    cases e : F p with
    | none => rfl
    | some u => have := w.sub p u e; rw [hp] at this; cases this
  have sF : Sub F (upd F p o) := fun a u z => by rw [upd_ne (ne_of_none z fp)]; exact z
  refine ⟨sF, fun _ _ => rfl, Nat.le_refl _, ⟨fun a u z => ?_, fun l c z => ?_, w.inj⟩, fun l c _ z => ⟨c, z⟩, fun l c q z => absurd (Sto.lt_of z) (Nat.not_lt.mpr q), fun a u z _ => ?_, fun a u z => ⟨u, ?_⟩, fun a u z => ?_⟩
  · by_cases e : a = p
    · subst e; rw [upd_same] at z ⊢; exact z
    · rw [upd_ne e] at z ⊢; exact w.sub a u z
  · have n := w.ne z hp
    rw [upd_ne n, upd_ne n]
    exact ⟨(w.cell l c z).1, (w.cell l c z).2.mono sF⟩
  · rw [upd_ne (ne_of_none z hp)]; exact z
  · rw [upd_ne (ne_of_none z hp)]; exact z
  · by_cases e : a = p
    · subst e; exact .inr (.inl hp)
    · rw [upd_ne e] at z; exact .inl z
/-- a new place -/
theorem Wld.alloc (w : Wld K F ρ st H) {p : Addr} {o : HO} {c : Cell} (hp : H p = none) (hc : CRel K F c (some o)) :
    Pst K F ρ st H F (fun l => if l = st.nxt then p else ρ l) (st.alloc c) (upd H p o) := by
  have fp : F p = none := by
    cases e : F p with
    | none => rfl
    | some u => have := w.sub p u e; rw [hp] at this; cases this
  refine ⟨fun _ _ z => z, fun l q => if_neg (by omega), by rw [Sto.alloc_nxt]; omega, ⟨fun a u z => ?_, fun l d z => ?_, fun l l' d d' z z' e => ?_⟩, fun l d q z => ?_, fun l d q z => ?_, fun a u z _ => ?_, fun a u z => ⟨u, ?_⟩, fun _ _ z => .inl z⟩
  · rw [upd_ne (ne_of_none z fp)]; exact w.sub a u z
  · by_cases e : l = st.nxt
    · subst e
      rw [Sto.alloc_get] at z; cases z
      rw [if_pos rfl, upd_same]
      exact ⟨fp, hc⟩
    · rw [Sto.alloc_ne e] at z
      rw [if_neg e, upd_ne (w.ne z hp)]
      exact w.cell l d z
  · by_cases h : l = st.nxt
    · by_cases h' : l' = st.nxt
      · rw [h, h']
      · rw [if_pos h, if_neg h'] at e
        rw [Sto.alloc_ne h'] at z'
        exact absurd e.symm (w.ne z' hp)
    · by_cases h' : l' = st.nxt
      · rw [if_neg h, if_pos h'] at e
        rw [Sto.alloc_ne h] at z
        exact absurd e (w.ne z hp)
      · rw [if_neg h, if_neg h'] at e
        rw [Sto.alloc_ne h] at z
        rw [Sto.alloc_ne h'] at z'
        exact w.inj l l' d d' z z' e
  · rw [Sto.alloc_ne (by omega)] at z; exact ⟨d, z⟩
  · by_cases e : l = st.nxt
    · rw [if_pos e]; exact hp
    · rw [Sto.alloc_ne e] at z
      exact absurd (Sto.lt_of z) (Nat.not_lt.mpr q)
  · rw [upd_ne (ne_of_none z hp)]; exact z
  · rw [upd_ne (ne_of_none z hp)]; exact z
/-- a place is rewritten -/
theorem Wld.set (w : Wld K F ρ st H) {l : Nat} {o : HO} {c c0 : Cell} (hl : st.cs l = some c0) (hc : CRel K F c (some o)) : Pst K F ρ st H F ρ (st.set l c) (upd H (ρ l) o) := by
  obtain ⟨fl, hcl⟩ := w.cell l c0 hl
  refine ⟨fun _ _ z => z, fun _ _ => rfl, Nat.le_refl _, ⟨fun a u z => ?_, fun j d z => ?_, fun j j' d d' z z' e => ?_⟩, fun j d q z => ?_, fun j d q z => ?_, fun a u z n => ?_, fun a u z => ?_, fun _ _ z => .inl z⟩
  · rw [upd_ne (ne_of_none z fl)]; exact w.sub a u z
  · by_cases e : j = l
    · subst e
      rw [Sto.set_get hl] at z; cases z
      rw [upd_same]
      exact ⟨fl, hc⟩
    · rw [Sto.set_ne e] at z
      have n : ρ j ≠ ρ l := fun q => e (w.inj j l d c0 z hl q)
      rw [upd_ne n]
      exact w.cell j d z
  · have h : ∃ d0, st.cs j = some d0 := by
      by_cases e : j = l
      · subst e; exact ⟨_, hl⟩
      · rw [Sto.set_ne e] at z; exact ⟨_, z⟩
    have h' : ∃ d0, st.cs j' = some d0 := by
      by_cases e : j' = l
      · subst e; exact ⟨_, hl⟩
      · rw [Sto.set_ne e] at z'; exact ⟨_, z'⟩
    obtain ⟨d0, h⟩ := h
    obtain ⟨d1, h'⟩ := h'
    exact w.inj j j' d0 d1 h h' e
  · by_cases e : j = l
    · subst e; exact ⟨_, hl⟩
    · rw [Sto.set_ne e] at z; exact ⟨_, z⟩
  · exact absurd (Sto.lt_of z) (Nat.not_lt.mpr q)
  · rw [upd_ne (Ne.symm (n l c0 hl))]; exact z
  · by_cases e : a = ρ l
    · subst e; exact ⟨o, upd_same⟩
    · rw [upd_ne e]; exact ⟨u, z⟩
open Classical in
noncomputable def mixF (b : Nat) (st : Sto) (ρ : Nat → Addr) (H F : Hp) : Hp := fun a => if ∃ l c, b ≤ l ∧ st.cs l = some c ∧ ρ l = a then H a else F a
theorem mixF_pos {b : Nat} {a : Addr} (h : ∃ l c, b ≤ l ∧ st.cs l = some c ∧ ρ l = a) : mixF b st ρ H F a = H a := if_pos h
theorem mixF_neg {b : Nat} {a : Addr} (h : ¬ ∃ l c, b ≤ l ∧ st.cs l = some c ∧ ρ l = a) : mixF b st ρ H F a = F a := if_neg h
/-- the places from b on are places no more: what stands there stays so -/
theorem Wld.drop (w : Wld K F ρ st H) {b : Nat} (hb : b ≤ st.nxt) : ∃ F', Sub F F' ∧ Wld K F' ρ (st.restr b) H ∧ (∀ l c, b ≤ l → st.cs l = some c → F' (ρ l) = H (ρ l)) ∧ ∀ a o, F' a = some o → F a = some o ∨ ∃ l c, b ≤ l ∧ st.cs l = some c ∧ ρ l = a := by
  have sub : Sub F (mixF b st ρ H F) := fun a o z => by
    by_cases h : ∃ l c, b ≤ l ∧ st.cs l = some c ∧ ρ l = a
    · rw [mixF_pos h]; exact w.sub a o z
    · rw [mixF_neg h]; exact z
  have low : ∀ l c, (st.restr b).cs l = some c → st.cs l = some c ∧ l < b := fun l c z => by
    have z : (if l < b then st.cs l else none) = some c := z
    split at z
    · rename_i q; exact ⟨z, q⟩
    · cases z
  refine ⟨mixF b st ρ H F, sub, ⟨fun a o z => ?_, fun l c z => ?_, fun l l' c c' z z' e => w.inj l l' c c' (low l c z).1 (low l' c' z').1 e⟩, fun l c q z => mixF_pos ⟨l, c, q, z, rfl⟩, fun a o z => ?_⟩
  · by_cases h : ∃ l c, b ≤ l ∧ st.cs l = some c ∧ ρ l = a
    · rw [mixF_pos h] at z; exact z
    · rw [mixF_neg h] at z; exact w.sub a o z
  · obtain ⟨z, q⟩ := low l c z
    obtain ⟨f, r⟩ := w.cell l c z
    refine ⟨?_, r.mono sub⟩
    rw [mixF_neg]
    · exact f
    · rintro ⟨l', c', h1, h2, h3⟩
      have := w.inj l' l c' c h2 z h3
      omega
  · by_cases h : ∃ l c, b ≤ l ∧ st.cs l = some c ∧ ρ l = a
    · exact .inr h
    · rw [mixF_neg h] at z; exact .inl z
/-- a thing at D that is no part of the world is written -/
theorem Pst.side (a : Pst K F ρ st H F1 ρ1 st1 H1) {D : Addr} {o : HO} (hD : H D = none) (fD : F1 D = none) (nD : ∀ l c, st1.cs l = some c → ρ1 l ≠ D) : Pst K F ρ st H F1 ρ1 st1 (upd H1 D o) := by
  refine ⟨a.ex, a.rho, a.nxt, ⟨fun x u z => ?_, fun l c z => ?_, a.wld.inj⟩, a.live, a.fresh, fun x u z n => ?_, fun x u z => ?_, a.fz⟩
  · rw [upd_ne (ne_of_none z fD)]; exact a.wld.sub x u z
  · rw [upd_ne (nD l c z)]; exact a.wld.cell l c z
  · rw [upd_ne (ne_of_none z hD)]; exact a.ext x u z n
  · rw [upd_ne (ne_of_none z hD)]; exact a.dom x u z
/-- .. it is a value of the world from now on -/
theorem Pst.keepV (a : Pst K F ρ st H F1 ρ1 st1 H1) {D : Addr} {o : HO} (hD : H D = none) (fD : F1 D = none) (nD : ∀ l c, st1.cs l = some c → ρ1 l ≠ D) (h : H1 D = some o) : Pst K F ρ st H (upd F1 D o) ρ1 st1 H1 := by
  have sF : Sub F1 (upd F1 D o) := fun x u z => by rw [upd_ne (ne_of_none z fD)]; exact z
  refine ⟨fun x u z => sF x u (a.ex x u z), a.rho, a.nxt, ⟨fun x u z => ?_, fun l c z => ?_, a.wld.inj⟩, a.live, a.fresh, a.ext, a.dom, fun x u z => ?_⟩
  · by_cases e : x = D
    · subst e; rw [upd_same] at z; cases z; exact h
    · rw [upd_ne e] at z; exact a.wld.sub x u z
  · rw [upd_ne (nD l c z)]
    exact ⟨(a.wld.cell l c z).1, (a.wld.cell l c z).2.mono sF⟩
  · by_cases e : x = D
    · subst e; exact .inr (.inl hD)
    · rw [upd_ne e] at z; exact a.fz x u z
/-- .. it is a place from now on -/
theorem Pst.keepL (a : Pst K F ρ st H F1 ρ1 st1 H1) {D : Addr} {o : HO} {c : Cell} (hD : H D = none) (fD : F1 D = none) (nD : ∀ l c, st1.cs l = some c → ρ1 l ≠ D) (h : H1 D = some o) (hc : CRel K F1 c (some o)) :
    Pst K F ρ st H F1 (fun l => if l = st1.nxt then D else ρ1 l) (st1.alloc c) H1 := by
  refine ⟨a.ex, fun l q => ?_, Nat.le_succ_of_le a.nxt, ⟨a.wld.sub, fun l d z => ?_, fun l l' d d' z z' e => ?_⟩, fun l d q z => ?_, fun l d q z => ?_, a.ext, a.dom, a.fz⟩
  · have := a.nxt
    show (if l = st1.nxt then D else ρ1 l) = ρ l
    rw [if_neg (by omega)]; exact a.rho l q
  · by_cases e : l = st1.nxt
    · subst e
      rw [Sto.alloc_get] at z; cases z
      rw [if_pos rfl, h]
      exact ⟨fD, hc⟩
    · rw [Sto.alloc_ne e] at z
      rw [if_neg e]
      exact a.wld.cell l d z
  · by_cases h1 : l = st1.nxt
    · by_cases h2 : l' = st1.nxt
      · rw [h1, h2]
      · rw [if_pos h1, if_neg h2] at e
        rw [Sto.alloc_ne h2] at z'
        exact absurd e.symm (nD l' d' z')
    · by_cases h2 : l' = st1.nxt
      · rw [if_neg h1, if_pos h2] at e
        rw [Sto.alloc_ne h1] at z
        exact absurd e (nD l d z)
      · rw [if_neg h1, if_neg h2] at e
        rw [Sto.alloc_ne h1] at z
        rw [Sto.alloc_ne h2] at z'
        exact a.wld.inj l l' d d' z z' e
  · have := a.nxt
    rw [Sto.alloc_ne (by omega)] at z
    exact a.live l d q z
  · by_cases e : l = st1.nxt
    · rw [if_pos e]; exact hD
    · rw [if_neg e]
      rw [Sto.alloc_ne e] at z
      exact a.fresh l d q z
/-- a place is no place more -/
theorem Pst.kill (a : Pst K F ρ st H F1 ρ1 st1 H1) (l : Nat) : Pst K F ρ st H F1 ρ1 (st1.kill l) H1 := by
  have sub : ∀ j c, (st1.kill l).cs j = some c → st1.cs j = some c := fun j c z => by
    by_cases e : j = l
    · subst e; rw [Sto.kill_get] at z; cases z
    · rw [Sto.kill_ne e] at z; exact z
  exact ⟨a.ex, a.rho, a.nxt, ⟨a.wld.sub, fun j c z => a.wld.cell j c (sub j c z), fun j j' c c' z z' e => a.wld.inj j j' c c' (sub j c z) (sub j' c' z') e⟩, fun j c q z => a.live j c q (sub j c z), fun j c q z => a.fresh j c q (sub j c z), a.ext, a.dom, a.fz⟩
/-- a list that is a place becomes a value -/
theorem Wld.freeze (w : Wld K F ρ st H) {l : Nat} {xs : List PV} (hl : st.cs l = some (.lst xs)) : ∃ vs, H (ρ l) = some (.lst vs) ∧ RelPs K F (fun _ => 0) 0 xs vs ∧ Pst K F ρ st H (upd F (ρ l) (.lst vs)) ρ (st.kill l) H := by
  obtain ⟨fl, vs, hv, r⟩ := w.cell l _ hl
  have sF : Sub F (upd F (ρ l) (.lst vs)) := fun a u z => by rw [upd_ne (ne_of_none z fl)]; exact z
  have sub : ∀ j c, (st.kill l).cs j = some c → st.cs j = some c ∧ j ≠ l := fun j c z => by
    by_cases e : j = l
    · subst e; rw [Sto.kill_get] at z; cases z
    · rw [Sto.kill_ne e] at z; exact ⟨z, e⟩
  refine ⟨vs, hv, r, sF, fun _ _ => rfl, Nat.le_refl _, ⟨fun a u z => ?_, fun j c z => ?_, fun j j' c c' z z' e => w.inj j j' c c' (sub j c z).1 (sub j' c' z').1 e⟩, fun j c _ z => ⟨c, (sub j c z).1⟩, fun j c q z => absurd (Sto.lt_of (sub j c z).1) (Nat.not_lt.mpr q), fun _ _ z _ => z, fun _ o z => ⟨o, z⟩, fun a o z => ?_⟩
  · by_cases e : a = ρ l
    · subst e; rw [upd_same] at z; cases z; exact hv
    · rw [upd_ne e] at z; exact w.sub a u z
  · obtain ⟨z, e⟩ := sub j c z
    have n : ρ j ≠ ρ l := fun q => e (w.inj j l c _ z hl q)
    rw [upd_ne n]
    exact ⟨(w.cell j c z).1, (w.cell j c z).2.mono sF⟩
  · by_cases e : a = ρ l
    · exact .inr (.inr ⟨l, _, hl, e.symm⟩)
    · rw [upd_ne e] at z; exact .inl z
mutual
/-- what is told in the place's stead lies there -/
theorem RelP.res {F' : Hp} {b n : Nat} (w : Wld K F ρ st H) (sF : Sub F F') (hf : ∀ l c, b ≤ l → st.cs l = some c → F' (ρ l) = H (ρ l)) : ∀ {x x' : PV} {v : V}, RelP K F ρ n x v → x.res b st.cs = some x' → RelP K F' ρ b x' v
  | .non, _, _, h, e => by rw [PV.res] at e; cases e; rw [RelP] at h ⊢; exact h
  | .bl _, _, _, h, e => by rw [PV.res] at e; cases e; rw [RelP] at h ⊢; exact h
  | .int _, _, _, h, e => by rw [PV.res] at e; cases e; rw [RelP] at h ⊢; exact h
  | .str _, _, _, h, e => by rw [PV.res] at e; cases e; rw [RelP] at h ⊢; exact h
  | .tup xs, _, _, h, e => by
    rw [PV.res] at e
    cases q : ress b st.cs xs with
    | none => rw [q] at e; cases e
    | some ys =>
      rw [q] at e; cases e
      rw [RelP] at h ⊢
      obtain ⟨a, vs, e, t, r⟩ := h
      exact ⟨a, vs, e, sF.sqT t, RelPs.res w sF hf r q⟩
  | .lst xs, _, _, h, e => by
    rw [PV.res] at e
    cases q : ress b st.cs xs with
    | none => rw [q] at e; cases e
    | some ys =>
      rw [q] at e; cases e
      rw [RelP] at h ⊢
      obtain ⟨a, vs, e, t, r⟩ := h
      exact ⟨a, vs, e, sF _ _ t, RelPs.res w sF hf r q⟩
  | .ro xs, _, _, h, e => by
    rw [PV.res] at e
    cases q : ress b st.cs xs with
    | none => rw [q] at e; cases e
    | some ys =>
      rw [q] at e; cases e
      rw [RelP] at h ⊢
      obtain ⟨a, vs, e, t, r⟩ := h
      exact ⟨a, vs, e, sF.sqL t, RelPs.res w sF hf r q⟩
  | .dct _ _, _, _, h, _ => by rw [RelP] at h; exact h.elim
  | .loc l, _, _, h, e => by
    rw [PV.res] at e
    rw [RelP] at h
    obtain ⟨h1, rfl⟩ := h
    split at e
    · rename_i q
      cases e
      rw [RelP]
      exact ⟨q, rfl⟩
    · rename_i q
      cases d : st.cs l with
      | none => rw [d] at e; cases e
      | some c =>
        rw [d] at e
        obtain ⟨_, r⟩ := w.cell l c d
        have hF := hf l c (Nat.not_lt.mp q) d
        cases c with
        | lst xs =>
          cases e
          obtain ⟨vs, hv, r⟩ := r
          show RelP K F' ρ b (.lst xs) _
          rw [RelP]
          exact ⟨ρ l, vs, rfl, by rw [hF]; exact hv, RelPs.any (r.mono sF (fun _ _ => rfl) (Nat.le_refl _))⟩
        | dct _ _ => exact r.elim
theorem RelPs.res {F' : Hp} {b n : Nat} (w : Wld K F ρ st H) (sF : Sub F F') (hf : ∀ l c, b ≤ l → st.cs l = some c → F' (ρ l) = H (ρ l)) : ∀ {xs xs' : List PV} {vs : List V}, RelPs K F ρ n xs vs → ress b st.cs xs = some xs' → RelPs K F' ρ b xs' vs
  | [], _, _, h, e => by rw [ress] at e; cases e; rw [h.inv0]; exact .nil
  | x :: r, _, _, h, e => by
    rw [ress] at e
    cases q : x.res b st.cs with
    | none => rw [q] at e; cases e
    | some y =>
      cases q2 : ress b st.cs r with
      | none => rw [q, q2] at e; cases e
      | some ys =>
        rw [q, q2] at e; cases e
        obtain ⟨w', ws, rfl, h1, t⟩ := h.inv
        exact .cons (RelP.res w sF hf h1 q) (RelPs.res w sF hf t q2)
end
/-- from st the places from b on are dropped: seen from an elder state at b -/
theorem Pst.drop {b : Nat} (a : Pst K F ρ st H F1 ρ1 st1 H1) (hb : b = st.nxt) : ∃ F', Sub F1 F' ∧ Pst K F ρ st H F' ρ1 (st1.restr b) H1 ∧ (∀ l c, b ≤ l → st1.cs l = some c → F' (ρ1 l) = H1 (ρ1 l)) ∧ ∀ x o, F' x = some o → F1 x = some o ∨ ∃ l c, b ≤ l ∧ st1.cs l = some c ∧ ρ1 l = x := by
  obtain ⟨F', s, w, f, g⟩ := a.wld.drop (b := b) (by rw [hb]; exact a.nxt)
  have sub : ∀ l c, (st1.restr b).cs l = some c → st1.cs l = some c ∧ l < b := fun l c z => by
    have z : (if l < b then st1.cs l else none) = some c := z
    split at z
    · rename_i q; exact ⟨z, q⟩
    · cases z
  refine ⟨F', s, ⟨fun x o z => s _ _ (a.ex x o z), a.rho, by rw [Sto.restr_nxt, hb]; exact Nat.le_refl _, w, fun l c q z => a.live l c q (sub l c z).1, fun l c q z => absurd (sub l c z).2 (by omega), a.ext, a.dom, fun x o z => ?_⟩, f, g⟩
  rcases g x o z with h | ⟨l, c, h1, h2, h3⟩
  · exact a.fz x o h
  · refine .inr (.inl ?_)
    rw [← h3]
    exact a.fresh l c (by rw [← hb]; exact h1) h2
end

/-! ### slots -/
def ERel (K : PySem.W.Frag) (F : Hp) (ρ : Nat → Addr) (n : Nat) (env : Env) (σ : L2.St) : Prop :=
  env.length = σ.length ∧ ∀ (i : Nat) (v : PV), env[i]? = some (some v) → ∃ w, σ[i]? = some (some w) ∧ RelP K F ρ n v w
section
variable {K : PySem.W.Frag} {F F1 F2 : Hp} {ρ ρ1 ρ2 : Nat → Addr} {st st1 st2 : Sto} {H H1 H2 : Hp} {env : Env} {σ : L2.St} {n n' : Nat}
theorem ERel.mono (s : Sub F F1) (hr : ∀ l, l < n → ρ1 l = ρ l) (hn : n ≤ n') (h : ERel K F ρ n env σ) : ERel K F1 ρ1 n' env σ :=
  ⟨h.1, fun i v e => let ⟨w, e2, r⟩ := h.2 i v e; ⟨w, e2, r.mono s hr hn⟩⟩
theorem ERel.step (a : Pst K F ρ st H F1 ρ1 st1 H1) (h : ERel K F ρ st.nxt env σ) : ERel K F1 ρ1 st1.nxt env σ := h.mono a.ex a.rho a.nxt
theorem RelP.step {v : PV} {w : V} (a : Pst K F ρ st H F1 ρ1 st1 H1) (h : RelP K F ρ st.nxt v w) : RelP K F1 ρ1 st1.nxt v w := h.mono a.ex a.rho a.nxt
theorem RelPs.step {v : List PV} {w : List V} (a : Pst K F ρ st H F1 ρ1 st1 H1) (h : RelPs K F ρ st.nxt v w) : RelPs K F1 ρ1 st1.nxt v w := h.mono a.ex a.rho a.nxt
theorem ERel.set {v : PV} {w : V} (h : ERel K F ρ n env σ) (r : RelP K F ρ n v w) (i : Nat) : ERel K F ρ n (env.set i (some v)) (σ.set i (some w)) := by
  refine ⟨by rw [List.length_set, List.length_set]; exact h.1, fun j u e => ?_⟩
  by_cases q : i = j
  · subst q
    by_cases hl : i < env.length
    · rw [List.getElem?_set_self hl] at e; cases e
      exact ⟨w, List.getElem?_set_self (by rw [← h.1]; exact hl), r⟩
    · rw [List.getElem?_eq_none (by rw [List.length_set]; omega)] at e; cases e
  · rw [List.getElem?_set_ne q] at e ⊢
    exact h.2 j u e
theorem ERel.wipe1 (h : ERel K F ρ n env σ) (i : Nat) : ERel K F ρ n (env.set i none) (σ.set i none) := by
  refine ⟨by rw [List.length_set, List.length_set]; exact h.1, fun j u e => ?_⟩
  by_cases q : i = j
  · subst q
    by_cases hl : i < env.length
    · rw [List.getElem?_set_self hl] at e; cases e
    · rw [List.getElem?_eq_none (by rw [List.length_set]; omega)] at e; cases e
  · rw [List.getElem?_set_ne q] at e ⊢
    exact h.2 j u e
theorem ERel.wipe (h : ERel K F ρ n env σ) : ∀ vs : List Nat, ERel K F ρ n (wipeE env vs) (L2.wipe σ vs)
  | [] => h
  | v :: vs => by rw [wipeE, L2.wipe]; exact (ERel.wipe h vs).wipe1 v
end
end DL

/-! DL2: expressions: what DL0's pieces compute is what the text computes. -/
namespace DL
open PySem PySem.Spec PyProof.Rows L2

section
variable (X : Cx)
def wE (e : Expr) : TE := fun σ H Q => ∀ pins s, Inv X pins σ H s → wpAny (model X.prog X.w) X.A (eval e X.env) (EP X pins σ Q) X.xe s
def wT (e : Expr) : TT := fun σ H Q => ∀ pins s, Inv X pins σ H s → wpAny (model X.prog X.w) X.A (isTrue e X.env (eval e X.env)) (TP X pins σ Q) X.xe s
def wW (e : Expr) : TT := fun σ H Q => ∀ whole pins s, Inv X pins σ H s → wpAny (model X.prog X.w) X.A (isTrue e X.env whole) (TP X pins σ Q) X.xe s
def wA (es : List Expr) : TA := fun σ H Q => ∀ pos pins s, Inv X pins σ H s → wpAny (model X.prog X.w) X.A (spliced (backTo pos (starEach es X.env))) (AP X pins σ Q) X.xe s
def wS (s : Stmt) : TS := fun D σ H => ∀ pins st, Inv X pins σ H st → wpAny (model X.prog X.w) X.A (exec s X.env) (SP X pins D) X.xe st
def wSs (s : List Stmt) : TS := fun D σ H => ∀ pins st, Inv X pins σ H st → wpAny (model X.prog X.w) X.A (execs s X.env) (SP X pins D) X.xe st
def wI (tg iter : Expr) : TI := fun σ H R => ∀ pins s, Inv X pins σ H s → wpAny (model X.prog X.w) X.A (eval iter X.env) (fun v s1 => wpAny (model X.prog X.w) X.A (pyIter v) (PIE X pins σ tg R) X.xe s1) X.xe s
def wG (tg : Expr) : TG := fun v σ H Q => ∀ pins s u, Inv X pins σ H s → RelV v u → wpAny (model X.prog X.w) X.A (assign tg X.env u) (fun _ s' => ∃ σ' H', Inv X pins σ' H' s' ∧ Q σ' H') X.xe s
def wGs (ts : List Expr) : TGs := fun vs σ H Q => ∀ pins s us, Inv X pins σ H s → Vals vs us → wpAny (model X.prog X.w) X.A (assignInOrder ((assignEach ts X.env).map (·.2)) us) (fun _ s' => ∃ σ' H', Inv X pins σ' H' s' ∧ Q σ' H') X.xe s
def wR (f : Value → Value → Sem Value) : R2 := fun x y H Q => ∀ pins s σ v u, Inv X pins σ H s → RelV x v → RelV y u → wpAny (model X.prog X.w) X.A (f v u) (EP X pins σ Q) X.xe s
def wU (f : Value → Sem Value) : V → Hp → VK → Prop := fun x H Q => ∀ pins s σ v, Inv X pins σ H s → RelV x v → wpAny (model X.prog X.w) X.A (f v) (EP X pins σ Q) X.xe s
def wC (f : Value) : List V → Hp → VK → Prop := fun xs H Q => ∀ pins s σ us, Inv X pins σ H s → Vals xs us → wpAny (model X.prog X.w) X.A (call f us) (EP X pins σ Q) X.xe s
def wM (id : String) : V → List V → Hp → VK → Prop := fun x xs H Q => ∀ pins s σ v us, Inv X pins σ H s → RelV x v → Vals xs us → wpAny (model X.prog X.w) X.A (call (.builtin id) (v :: us)) (EP X pins σ Q) X.xe s
def wIx : R2 := fun x y H Q => ∀ value slice pins s σ v u, Inv X pins σ H s → RelV x v → RelV y u → subscripted slice false v u = operate [v, u] (getItem v u) → wpAny (model X.prog X.w) X.A (subscriptTail value slice v u) (EP X pins σ Q) X.xe s
def wSet : TSet := fun o i v H Q => ∀ pins s σ ov iv u, Inv X pins σ H s → RelV o ov → RelV i iv → RelV v u → wpAny (model X.prog X.w) X.A (setItem ov iv u) (fun _ s' => ∃ H', Inv X pins σ H' s' ∧ Q H') X.xe s
def wO (e : Option Expr) : TO := fun σ H Q => ∀ (t : TO), PO X e t → t σ H Q
end
section
variable {X : Cx} {e : Expr} {σ : L2.St} {H : Hp}
theorem pe_w : PE X e (wE X e) := ⟨fun pins s _ _ _ I h => h pins s I⟩
theorem pt_w : PT X e (wT X e) := ⟨fun pins s _ _ _ I h => h pins s I⟩
theorem pw_w : PW X e (wW X e) := ⟨fun wh pins s _ _ _ I h => h wh pins s I⟩
theorem pa_w {es} : PA X es (wA X es) := ⟨fun pos pins s _ _ _ I h => h pos pins s I⟩
theorem ps_w {s} : PS X s (wS X s) := ⟨fun pins st _ _ _ I h => h pins st I⟩
theorem pss_w {s} : PSs X s (wSs X s) := ⟨fun pins st _ _ _ I h => h pins st I⟩
theorem pi_w {tg it} : PI X tg it (wI X tg it) := ⟨fun pins s _ _ _ I h => h pins s I⟩
theorem pg_w {tg} : PG X tg (wG X tg) := ⟨fun pins s _ _ _ u _ I r h => h pins s u I r⟩
theorem pgs_w {ts} : PGs X ts (wGs X ts) := ⟨fun pins s _ _ _ us _ I r h => h pins s us I r⟩
theorem opr_w {f} : OpR X f (wR X f) := fun pins s σ _ _ _ v u _ I r1 r2 h => h pins s σ v u I r1 r2
theorem unr_w {f} : UnR X f (wU X f) := fun pins s σ _ _ v _ I r1 h => h pins s σ v I r1
theorem cr_w {f} : CallR X f (wC X f) := fun pins s σ _ _ us _ I r h => h pins s σ us I r
theorem mr_w {id} : MtR X id (wM X id) := fun pins s σ _ _ _ v us _ I r1 r2 h => h pins s σ v us I r1 r2
theorem ix_w : IxR X (wIx X) := fun value slice pins s σ _ _ _ v u _ I r1 r2 h hs => h value slice pins s σ v u I r1 r2 hs
theorem set_w : PSet X (wSet X) := fun pins s σ _ _ _ _ ov iv u _ I r1 r2 r3 h => h pins s σ ov iv u I r1 r2 r3
theorem wE_of {t : TE} {Q : VK} (h : PE X e t) (q : t σ H Q) : wE X e σ H Q := fun pins s I => h.run pins s σ H Q I q
theorem wT_of {t : TT} {Q : Bool → Hp → Prop} (h : PT X e t) (q : t σ H Q) : wT X e σ H Q := fun pins s I => h.run pins s σ H Q I q
theorem wW_of {t : TT} {Q : Bool → Hp → Prop} (h : PW X e t) (q : t σ H Q) : wW X e σ H Q := fun wh pins s I => h.run wh pins s σ H Q I q
theorem wA_of {es} {t : TA} {Q : List V → Hp → Prop} (h : PA X es t) (q : t σ H Q) : wA X es σ H Q := fun pos pins s I => h.run pos pins s σ H Q I q
theorem wS_of {s} {t : TS} {D : Ends} (h : PS X s t) (q : t D σ H) : wS X s D σ H := fun pins st I => h.run pins st σ H D I q
theorem wSs_of {s} {t : TS} {D : Ends} (h : PSs X s t) (q : t D σ H) : wSs X s D σ H := fun pins st I => h.run pins st σ H D I q
theorem wI_of {tg it} {t : TI} {R} (h : PI X tg it t) (q : t σ H R) : wI X tg it σ H R := fun pins s I => h.run pins s σ H R I q
theorem wG_of {tg} {t : TG} {v} {Q} (h : PG X tg t) (q : t v σ H Q) : wG X tg v σ H Q := fun pins s u I r => h.run pins s σ H v u Q I r q
theorem wGs_of {ts} {t : TGs} {vs} {Q} (h : PGs X ts t) (q : t vs σ H Q) : wGs X ts vs σ H Q := fun pins s us I r => h.run pins s σ H vs us Q I r q
theorem wR_of {f} {r : R2} {x y} {Q : VK} (h : OpR X f r) (q : r x y H Q) : wR X f x y H Q := fun pins s σ v u I r1 r2 => h pins s σ H x y v u Q I r1 r2 q
theorem wU_of {f} {r : V → Hp → VK → Prop} {x} {Q : VK} (h : UnR X f r) (q : r x H Q) : wU X f x H Q := fun pins s σ v I r1 => h pins s σ H x v Q I r1 q
theorem wC_of {f} {r : List V → Hp → VK → Prop} {xs} {Q : VK} (h : CallR X f r) (q : r xs H Q) : wC X f xs H Q := fun pins s σ us I r1 => h pins s σ H xs us Q I r1 q
theorem wM_of {id} {r : V → List V → Hp → VK → Prop} {x xs} {Q : VK} (h : MtR X id r) (q : r x xs H Q) : wM X id x xs H Q := fun pins s σ v us I r1 r2 => h pins s σ H x xs v us Q I r1 r2 q
theorem wIx_of {r : R2} {x y} {Q : VK} (h : IxR X r) (q : r x y H Q) : wIx X x y H Q := fun value slice pins s σ v u I r1 r2 hs => h value slice pins s σ H x y v u Q I r1 r2 q hs
theorem wSet_of {t : TSet} {o i v} {Q} (h : PSet X t) (q : t o i v H Q) : wSet X o i v H Q := fun pins s σ ov iv u I r1 r2 r3 => h pins s σ H o i v ov iv u Q I r1 r2 r3 q
end

/-! ### what is shown of a piece -/
/-- what follows a value -/
abbrev Ct (K : PySem.W.Frag) (F : Hp) (ρ : Nat → Addr) (st : Sto) (H : Hp) (v : PV) (st' : Sto) (Q : VK) : Prop :=
  ∀ F' ρ' w H', Pst K F ρ st H F' ρ' st' H' → RelP K F' ρ' st'.nxt v w → Q w H'
abbrev Cts (K : PySem.W.Frag) (F : Hp) (ρ : Nat → Addr) (st : Sto) (H : Hp) (v : List PV) (st' : Sto) (Q : List V → Hp → Prop) : Prop :=
  ∀ F' ρ' w H', Pst K F ρ st H F' ρ' st' H' → RelPs K F' ρ' st'.nxt v w → Q w H'
def SndE (X : Cx) (e : Expr) (D : DE) : Prop := ∀ F ρ env st v st' σ H Q, Wld X.K F ρ st H → ERel X.K F ρ st.nxt env σ → D env st = some (v, st') → Ct X.K F ρ st H v st' Q → wE X e σ H Q
def SndA (X : Cx) (es : List Expr) (D : DA) : Prop := ∀ F ρ env st v st' σ H Q, Wld X.K F ρ st H → ERel X.K F ρ st.nxt env σ → D env st = some (v, st') → Cts X.K F ρ st H v st' Q → wA X es σ H Q
def SndT (X : Cx) (e : Expr) (D : DT) : Prop := ∀ F ρ env st b st' σ H Q, Wld X.K F ρ st H → ERel X.K F ρ st.nxt env σ → D env st = some (b, st') →
  (∀ F' ρ' H', Pst X.K F ρ st H F' ρ' st' H' → Q b H') → wT X e σ H Q
def SndW (X : Cx) (e : Expr) (D : DT) : Prop := ∀ F ρ env st b st' σ H Q, Wld X.K F ρ st H → ERel X.K F ρ st.nxt env σ → D env st = some (b, st') →
  (∀ F' ρ' H', Pst X.K F ρ st H F' ρ' st' H' → Q b H') → wW X e σ H Q
def SndO (X : Cx) (f : Value → Value → Sem Value) (D : PV → PV → M PV) : Prop := ∀ F ρ st x y w1 w2 v st' H Q, Wld X.K F ρ st H → RelP X.K F ρ st.nxt x w1 → RelP X.K F ρ st.nxt y w2 → D x y st = some (v, st') → Ct X.K F ρ st H v st' Q → wR X f w1 w2 H Q
def SndU (X : Cx) (f : Value → Sem Value) (D : PV → M PV) : Prop := ∀ F ρ st x w1 v st' H Q, Wld X.K F ρ st H → RelP X.K F ρ st.nxt x w1 → D x st = some (v, st') → Ct X.K F ρ st H v st' Q → wU X f w1 H Q
def SndC (X : Cx) (f : Value) (D : FSem) : Prop := ∀ F ρ st xs ws v st' H Q, Wld X.K F ρ st H → RelPs X.K F ρ st.nxt xs ws → D xs st = some (v, st') → Ct X.K F ρ st H v st' Q → wC X f ws H Q
def SndM (X : Cx) (id : String) (D : Nat → FSem) : Prop := ∀ F ρ st l xs ws v st' H Q, Wld X.K F ρ st H → RelPs X.K F ρ st.nxt xs ws → D l xs st = some (v, st') → Ct X.K F ρ st H v st' Q → wM X id (.ref (ρ l)) ws H Q
def SndIx (X : Cx) (D : PV → PV → M PV) : Prop := ∀ F ρ st x y w1 w2 v st' H Q, Wld X.K F ρ st H → RelP X.K F ρ st.nxt x w1 → RelP X.K F ρ st.nxt y w2 → D x y st = some (v, st') → Ct X.K F ρ st H v st' Q → wIx X w1 w2 H Q

/-! ### values -/
section
variable {X : Cx} {F : Hp} {ρ : Nat → Addr} {st st' : Sto} {H : Hp} {x v : PV} {w : V} {xs : List PV} {ws : List V} {Q : VK}
theorem Ct.here (W : Wld X.K F ρ st H) (c : Ct X.K F ρ st H v st Q) (r : RelP X.K F ρ st.nxt v w) : Q w H := c F ρ w H (Pst.refl W) r
theorem Ct.of {F1 : Hp} {ρ1 : Nat → Addr} {st1 : Sto} {H1 : Hp} (a : Pst X.K F ρ st H F1 ρ1 st1 H1) (c : Ct X.K F ρ st H v st' Q) : Ct X.K F1 ρ1 st1 H1 v st' Q := fun F' ρ' w H' p r => c F' ρ' w H' (a.trans p) r
theorem Ct.newV (W : Wld X.K F ρ st H) (c : Ct X.K F ρ st H v st Q) {p : Addr} {o : HO} (hp : H p = none) (r : RelP X.K (upd F p o) ρ st.nxt v (.ref p)) : Q (.ref p) (upd H p o) := c _ _ _ _ (W.new hp) r
theorem newF (W : Wld X.K F ρ st H) {p : Addr} {o : HO} (hp : H p = none) : Sub F (upd F p o) := (W.new hp).ex
theorem mkL_ok {m : Bool} (W : Wld X.K F ρ st H) (r : RelPs X.K F ρ st.nxt xs ws) (h : mkL m xs st = some (v, st')) (c : Ct X.K F ρ st H v st' Q) : ws.length ≤ sizeLine ∧ ∀ p, H p = none → Q (.ref p) (upd H p (.lst ws)) := by
  unfold mkL at h
  split at h
  · rename_i hz
    rw [r.length] at hz
    refine ⟨hz, fun p hp => ?_⟩
    split at h
    · split at h
      · rename_i hl
        cases h
        have a := W.alloc (c := .lst xs) (o := .lst ws) hp ⟨ws, rfl, r.free0 hl⟩
        refine c _ _ _ _ a ?_
        rw [RelP]
        exact ⟨by rw [Sto.alloc_nxt]; omega, by rw [if_pos rfl]⟩
      · cases h
    · cases h
      refine c.newV W hp ?_
      rw [RelP]
      exact ⟨p, ws, rfl, upd_same, r.mono (newF W hp) (fun _ _ => rfl) (Nat.le_refl _)⟩
  · cases h
theorem mkT_ok (W : Wld X.K F ρ st H) (r : RelPs X.K F ρ st.nxt xs ws) (h : mkT xs st = some (v, st')) (c : Ct X.K F ρ st H v st' Q) : ws.length ≤ sizeLine ∧ ∀ p, H p = none → Q (.ref p) (upd H p (.tup ws)) := by
  unfold mkT at h
  split at h
  · rename_i hz
    rw [r.length] at hz
    refine ⟨hz, fun p hp => ?_⟩
    cases h
    refine c.newV W hp ?_
    rw [RelP]
    exact ⟨p, ws, rfl, .inl (.inl upd_same), r.mono (newF W hp) (fun _ _ => rfl) (Nat.le_refl _)⟩
  · cases h
theorem tupV_ok (W : Wld X.K F ρ st H) (r : RelPs X.K F ρ st.nxt xs ws) (c : Ct X.K F ρ st H (.tup xs) st Q) {p : Addr} (hp : H p = none) : Q (.ref p) (upd H p (.tup ws)) := by
  refine c.newV W hp ?_
  rw [RelP]
  exact ⟨p, ws, rfl, .inl (.inl upd_same), r.mono (newF W hp) (fun _ _ => rfl) (Nat.le_refl _)⟩
theorem seq_ok (W : Wld X.K F ρ st H) (r : RelP X.K F ρ st.nxt x w) (h : seqOf st x = some xs) : ∃ a vs, w = .ref a ∧ (SqL X.K H a vs ∨ SqT X.K H a vs) ∧ RelPs X.K F ρ st.nxt xs vs := by
  unfold seqOf at h
  split at h
  · cases h
    rw [RelP] at r
    obtain ⟨a, vs, e, q, r⟩ := r
    exact ⟨a, vs, e, .inr (W.sub.sqT q), r⟩
  · cases h
    rw [RelP] at r
    obtain ⟨a, vs, e, q, r⟩ := r
    exact ⟨a, vs, e, .inl (.inl (.inl (W.sub _ _ q))), r⟩
  · cases h
    rw [RelP] at r
    obtain ⟨a, vs, e, q, r⟩ := r
    exact ⟨a, vs, e, .inl (W.sub.sqL q), r⟩
  · rename_i l
    rw [RelP] at r
    obtain ⟨q, rfl⟩ := r
    split at h
    · rename_i ys hy
      cases h
      obtain ⟨_, vs, e, r⟩ := W.cell l _ hy
      exact ⟨_, vs, rfl, .inl (.inl (.inl e)), r.any⟩
    · cases h
  · cases h
theorem lst_ok (W : Wld X.K F ρ st H) (r : RelP X.K F ρ st.nxt x w) (h : lstOf st x = some xs) : ∃ a vs, w = .ref a ∧ H a = some (.lst vs) ∧ RelPs X.K F ρ st.nxt xs vs := by
  unfold lstOf at h
  split at h
  · cases h
    rw [RelP] at r
    obtain ⟨a, vs, e, q, r⟩ := r
    exact ⟨a, vs, e, W.sub _ _ q, r⟩
  · rename_i l
    rw [RelP] at r
    obtain ⟨q, rfl⟩ := r
    split at h
    · rename_i ys hy
      cases h
      obtain ⟨_, vs, e, r⟩ := W.cell l _ hy
      exact ⟨_, vs, rfl, e, r.any⟩
    · cases h
  · cases h
theorem tup_ok (W : Wld X.K F ρ st H) (r : RelP X.K F ρ st.nxt (.tup xs) w) : ∃ a vs, w = .ref a ∧ SqT X.K H a vs ∧ RelPs X.K F ρ st.nxt xs vs := by
  rw [RelP] at r
  obtain ⟨a, vs, e, q, r⟩ := r
  exact ⟨a, vs, e, W.sub.sqT q, r⟩
theorem int_ok {K : PySem.W.Frag} {n : Nat} {i : Int} (r : RelP K F ρ n (.int i) w) : w = .int i := by rw [RelP] at r; exact r
theorem bl_ok {K : PySem.W.Frag} {n : Nat} {i : Bool} (r : RelP K F ρ n (.bl i) w) : w = .bl i := by rw [RelP] at r; exact r
theorem str_ok {K : PySem.W.Frag} {n : Nat} {i : Str} (r : RelP K F ρ n (.str i) w) : w = .str i := by rw [RelP] at r; exact r
theorem non_ok {K : PySem.W.Frag} {n : Nat} (r : RelP K F ρ n .non w) : w = .non := by rw [RelP] at r; exact r
theorem rel_int {K : PySem.W.Frag} {n : Nat} (i : Int) : RelP K F ρ n (.int i) (.int i) := by rw [RelP]
theorem rel_bl {K : PySem.W.Frag} {n : Nat} (i : Bool) : RelP K F ρ n (.bl i) (.bl i) := by rw [RelP]
theorem rel_str {K : PySem.W.Frag} {n : Nat} (i : Str) : RelP K F ρ n (.str i) (.str i) := by rw [RelP]
theorem rel_non {K : PySem.W.Frag} {n : Nat} : RelP K F ρ n .non .non := by rw [RelP]
end

/-! ### expressions -/
section
variable {X : Cx} {pos : Pos} {a b c e : Expr} {A B C : DE}
theorem snd_var {i : Nat} {x : Str} (hN : X.N[i]? = some x) (hv : Vis X.env.scope x) (hd : (x == ("__debug__" : Str)) = false) (hcd : (x == ("__classdict__" : Str)) = false) : SndE X (.Name x pos) (dVar i) := by
  intro F ρ env st v st' σ H Q W E h c
  unfold dVar at h
  split at h
  · rename_i u hu
    cases h
    obtain ⟨w, hw, r⟩ := E.2 i _ hu
    exact wE_of (pe_var hN hv hd hcd) ⟨w, hw, c.here W r⟩
  · cases h
theorem snd_frz {i : Nat} {x : Str} (hN : X.N[i]? = some x) (hv : Vis X.env.scope x) (hd : (x == ("__debug__" : Str)) = false) (hcd : (x == ("__classdict__" : Str)) = false) : SndE X (.Name x pos) (dFrz i) := by
  intro F ρ env st v st' σ H Q W E h c
  obtain ⟨u, st1, h1, h⟩ := mb_eq h
  unfold dVar at h1
  split at h1
  · rename_i u' hu
    cases h1
    obtain ⟨w, hw, r⟩ := E.2 i _ hu
    unfold frzL at h
    split at h
    · rename_i l
      split at h
      · rename_i xs hl
        cases h
        obtain ⟨vs, hv', r', P⟩ := W.freeze hl
        rw [RelP] at r
        obtain ⟨_, rfl⟩ := r
        refine wE_of (pe_var hN hv hd hcd) ⟨_, hw, c _ _ _ _ P ?_⟩
        rw [RelP]
        exact ⟨ρ l, vs, rfl, upd_same, (RelPs.any r').mono P.ex (fun _ _ => rfl) (Nat.le_refl _)⟩
      · cases h
    · cases h
  · cases h1
theorem snd_int {i : Int} {j : Nat} : SndE X (.Constant (.int i) j pos) (dCst (.int i)) := by
  intro F ρ env st v st' σ H Q W E h c
  cases h
  exact wE_of pe_int (c.here W (rel_int _))
theorem snd_bl {i : Bool} {j : Nat} : SndE X (.Constant (.bool i) j pos) (dCst (.bl i)) := by
  intro F ρ env st v st' σ H Q W E h c
  cases h
  exact wE_of pe_bl (c.here W (rel_bl _))
theorem snd_str {i : Str} {j : Nat} : SndE X (.Constant (.str i) j pos) (dCst (.str i)) := by
  intro F ρ env st v st' σ H Q W E h c
  cases h
  exact wE_of pe_str (c.here W (rel_str _))
theorem snd_non {j : Nat} : SndE X (.Constant .none j pos) (dCst .non) := by
  intro F ρ env st v st' σ H Q W E h c
  cases h
  exact wE_of pe_non (c.here W rel_non)
/-- two in a row -/
theorem two (ha : SndE X a A) (hb : SndE X b B) {F : Hp} {ρ : Nat → Addr} {env : Env} {st : Sto} {σ : L2.St} {H : Hp} {v : PV} {st' : Sto} {f : PV → PV → M PV} {R : V → V → Hp → Prop}
    (W : Wld X.K F ρ st H) (E : ERel X.K F ρ st.nxt env σ) (h : dBin f A B env st = some (v, st'))
    (c : ∀ F' ρ' x y w1 w2 st2 H', Pst X.K F ρ st H F' ρ' st2 H' → RelP X.K F' ρ' st2.nxt x w1 → RelP X.K F' ρ' st2.nxt y w2 → f x y st2 = some (v, st') → R w1 w2 H') :
    wE X a σ H fun x H1 => wE X b σ H1 fun y H2 => R x y H2 := by
  obtain ⟨x, st1, h1, h⟩ := mb_eq h
  obtain ⟨y, st2, h2, h⟩ := mb_eq h
  refine ha F ρ env st x st1 σ H _ W E h1 fun F1 ρ1 w1 H1 p1 r1 => ?_
  refine hb F1 ρ1 env st1 y st2 σ H1 _ p1.wld (E.step p1) h2 fun F2 ρ2 w2 H2 p2 r2 => ?_
  exact c F2 ρ2 x y w1 w2 st2 H2 (p1.trans p2) (r1.step p2) r2 h
theorem snd_bin {op : Operator} {f : PV → PV → M PV} (ho : SndO X (binaryOp op) f) (ha : SndE X a A) (hb : SndE X b B) : SndE X (.BinOp a op b pos) (dBin f A B) := by
  intro F ρ env st v st' σ H Q W E h c
  refine wE_of (pe_op opr_w pe_w pe_w) ?_
  exact two ha hb W E h fun F' ρ' x y w1 w2 st2 H' p r1 r2 h => ho F' ρ' st2 x y w1 w2 v st' H' Q p.wld r1 r2 h (Ct.of p c)
theorem snd_cmp {op : CmpOp} {f : PV → PV → M PV} (ho : SndO X (compareOp op) f) (ha : SndE X a A) (hb : SndE X b B) (hm : behindInMarks op b = false) : SndE X (.Compare a [op] [b] pos) (dBin f A B) := by
  intro F ρ env st v st' σ H Q W E h c
  refine wE_of (pe_cmpR opr_w pe_w pe_w hm) ?_
  exact two ha hb W E h fun F' ρ' x y w1 w2 st2 H' p r1 r2 h => ho F' ρ' st2 x y w1 w2 v st' H' Q p.wld r1 r2 h (Ct.of p c)
theorem tst_cmp {op : CmpOp} {f : PV → PV → M PV} (ho : SndO X (compareOp op) f) (ha : SndE X a A) (hb : SndE X b B) (hm : behindInMarks op b = false) : SndT X (.Compare a [op] [b] pos) (tVal (dBin f A B)) := by
  intro F ρ env st v st' σ H Q W E h c
  obtain ⟨z, st3, h, h3⟩ := mb_eq h
  refine wT_of (pt_cmpR opr_w pe_w pe_w hm) ?_
  refine two ha hb W E h fun F' ρ' x y w1 w2 st2 H' p r1 r2 h => ho F' ρ' st2 x y w1 w2 z st3 H' _ p.wld r1 r2 h fun F3 ρ3 w H3 p3 r3 => ?_
  obtain ⟨rfl, rfl⟩ := asB_eq h3
  exact ⟨_, bl_ok r3, c F3 ρ3 H3 (p.trans p3)⟩
theorem snd_un {op : UnaryOp} {f : PV → M PV} (ho : SndU X (unaryOp op) f) (ha : SndE X a A) : SndE X (.UnaryOp op a pos) (dUn f A) := by
  intro F ρ env st v st' σ H Q W E h c
  obtain ⟨x, st1, h1, h⟩ := mb_eq h
  refine wE_of (pe_un unr_w pe_w) ?_
  exact ha F ρ env st x st1 σ H _ W E h1 fun F1 ρ1 w1 H1 p1 r1 => ho F1 ρ1 st1 x w1 v st' H1 Q p1.wld r1 h (Ct.of p1 c)
theorem isNon_ok {K : PySem.W.Frag} {F : Hp} {ρ : Nat → Addr} {n : Nat} {x : PV} {w : V} (r1 : RelP K F ρ n x w) : decide (w = .non) = isNonP x := by
  cases x with
  | non => rw [non_ok r1]; rfl
  | bl b => rw [bl_ok r1]; rfl
  | int b => rw [int_ok r1]; rfl
  | str b => rw [str_ok r1]; rfl
  | tup _ => rw [RelP] at r1; obtain ⟨_, _, rfl, _⟩ := r1; rfl
  | lst _ => rw [RelP] at r1; obtain ⟨_, _, rfl, _⟩ := r1; rfl
  | ro _ => rw [RelP] at r1; obtain ⟨_, _, rfl, _⟩ := r1; rfl
  | dct _ _ => rw [RelP] at r1; exact r1.elim
  | loc _ => rw [RelP] at r1; obtain ⟨_, rfl⟩ := r1; rfl
def isOp (neg : Bool) : CmpOp := if neg then .IsNot else .Is
theorem snd_isN {neg : Bool} {j : Nat} {p2 : Pos} (ha : SndE X a A) : SndE X (.Compare a [isOp neg] [.Constant .none j p2] pos) (dUn (cmpIsN neg) A) := by
  intro F ρ env st v st' σ H Q W E h c
  obtain ⟨x, st1, h1, h⟩ := mb_eq h
  cases h
  have fin : ∀ F1 ρ1 w1 H1, Pst X.K F ρ st H F1 ρ1 st' H1 → RelP X.K F1 ρ1 st'.nxt x w1 → Q (.bl (decide (w1 = .non) != neg)) H1 := fun F1 ρ1 w1 H1 p1 r1 => by
    rw [isNon_ok r1]
    exact (Ct.of p1 c).here p1.wld (rel_bl _)
  cases neg with
  | false =>
    refine wE_of (pe_cmp (pc_isN pe_w) rfl) ?_
    refine ha F ρ env st x st' σ H _ W E h1 fun F1 ρ1 w1 H1 p1 r1 => ?_
    have := fin F1 ρ1 w1 H1 p1 r1
    rw [Bool.bne_false] at this
    exact this
  | true =>
    refine wE_of (pe_cmp (pc_notN pe_w) rfl) ?_
    refine ha F ρ env st x st' σ H _ W E h1 fun F1 ρ1 w1 H1 p1 r1 => ?_
    have := fin F1 ρ1 w1 H1 p1 r1
    rw [Bool.bne_true] at this
    exact this
/-- an expression that gives True or False, as a test -/
theorem tst_val (he : ∀ whole, isTrue e X.env whole = (do let v ← whole; standAt e.pos; holding [v] (truthy v))) {D : DE} (h : SndE X e D) : SndT X e (tVal D) := by
  intro F ρ env st v st' σ H Q W E h0 c
  obtain ⟨z, st3, h0, h3⟩ := mb_eq h0
  refine wT_of (pt_val pe_w he) ?_
  refine h F ρ env st z st3 σ H _ W E h0 fun F3 ρ3 w H3 p3 r3 => ?_
  obtain ⟨rfl, rfl⟩ := asB_eq h3
  exact ⟨_, bl_ok r3, c F3 ρ3 H3 p3⟩
theorem tst_isN {neg : Bool} {j : Nat} {p2 : Pos} (ha : SndE X a A) : SndT X (.Compare a [isOp neg] [.Constant .none j p2] pos) (tVal (dUn (cmpIsN neg) A)) := by
  intro F ρ env st v st' σ H Q W E h0 c
  obtain ⟨z, st3, h0, h3⟩ := mb_eq h0
  obtain ⟨x, st1, h1, h⟩ := mb_eq h0
  cases h
  cases h3
  cases neg with
  | false =>
    refine wT_of (pt_cmp (pc_isN pe_w) rfl) ?_
    refine ha F ρ env st x st' σ H _ W E h1 fun F1 ρ1 w1 H1 p1 r1 => ⟨_, rfl, ?_⟩
    have := c F1 ρ1 H1 p1
    rw [Bool.bne_false] at this
    rw [isNon_ok r1]
    exact this
  | true =>
    refine wT_of (pt_cmp (pc_notN pe_w) rfl) ?_
    refine ha F ρ env st x st' σ H _ W E h1 fun F1 ρ1 w1 H1 p1 r1 => ⟨_, rfl, ?_⟩
    have := c F1 ρ1 H1 p1
    rw [Bool.bne_true] at this
    rw [isNon_ok r1]
    exact this

/-! and, or, not -/
theorem w_and1 {D : DT} (h : SndT X a D) : SndW X (.BoolOp .And [a] pos) D := fun F ρ env st v st' σ H Q W E h0 c => wW_of (pw_and1 pt_w) (h F ρ env st v st' σ H Q W E h0 c)
theorem w_or1 {D : DT} (h : SndT X a D) : SndW X (.BoolOp .Or [a] pos) D := fun F ρ env st v st' σ H Q W E h0 c => wW_of (pw_or1 pt_w) (h F ρ env st v st' σ H Q W E h0 c)
theorem w_and {D D' : DT} {rest : List Expr} (h : SndT X a D) (h' : SndW X (.BoolOp .And (b :: rest) pos) D') : SndW X (.BoolOp .And (a :: b :: rest) pos) (tAnd D D') := fun F ρ env st v st' σ H Q W E h0 c => by
  obtain ⟨x, st1, h1, h2⟩ := mb_eq h0
  refine wW_of (pw_and pt_w pw_w) (h F ρ env st x st1 σ H _ W E h1 fun F1 ρ1 H1 p1 => ?_)
  cases x with
  | true => exact h' F1 ρ1 env st1 v st' σ H1 Q p1.wld (E.step p1) h2 fun F2 ρ2 H2 p2 => c F2 ρ2 H2 (p1.trans p2)
  | false => cases h2; exact c F1 ρ1 H1 p1
theorem w_or {D D' : DT} {rest : List Expr} (h : SndT X a D) (h' : SndW X (.BoolOp .Or (b :: rest) pos) D') : SndW X (.BoolOp .Or (a :: b :: rest) pos) (tOr D D') := fun F ρ env st v st' σ H Q W E h0 c => by
  obtain ⟨x, st1, h1, h2⟩ := mb_eq h0
  refine wW_of (pw_or pt_w pw_w) (h F ρ env st x st1 σ H _ W E h1 fun F1 ρ1 H1 p1 => ?_)
  cases x with
  | false => exact h' F1 ρ1 env st1 v st' σ H1 Q p1.wld (E.step p1) h2 fun F2 ρ2 H2 p2 => c F2 ρ2 H2 (p1.trans p2)
  | true => cases h2; exact c F1 ρ1 H1 p1
theorem SndW.t {D : DT} (h : SndW X e D) : SndT X e D := fun F ρ env st v st' σ H Q W E h0 c => wT_of (PW.pt pw_w) (h F ρ env st v st' σ H Q W E h0 c)
theorem tst_not {D : DT} (h : SndT X a D) : SndT X (.UnaryOp .Not a pos) (tNot D) := fun F ρ env st v st' σ H Q W E h0 c => by
  obtain ⟨x, st1, h1, h2⟩ := mb_eq h0
  cases h2
  exact wT_of (pt_not pt_w) (h F ρ env st x st' σ H _ W E h1 fun F1 ρ1 H1 p1 => c F1 ρ1 H1 p1)
theorem snd_one {op : BoolOp} {D : DE} (h : SndE X a D) : SndE X (.BoolOp op [a] pos) D := fun F ρ env st v st' σ H Q W E h0 c => wE_of (pe_one pe_w) (h F ρ env st v st' σ H Q W E h0 c)
theorem snd_and {rest : List Expr} (h : SndE X a A) (h' : SndE X (.BoolOp .And (b :: rest) pos) B) : SndE X (.BoolOp .And (a :: b :: rest) pos) (dAnd A B) := fun F ρ env st v st' σ H Q W E h0 c => by
  obtain ⟨x, st1, h1, h2⟩ := mb_eq h0
  obtain ⟨k, st2, h3, h2⟩ := mb_eq h2
  obtain ⟨rfl, rfl⟩ := asB_eq h3
  refine wE_of (pe_and pe_w pe_w) (h F ρ env st _ st1 σ H _ W E h1 fun F1 ρ1 w1 H1 p1 r1 => ?_)
  refine ⟨k, bl_ok r1, ?_⟩
  cases k with
  | true => exact h' F1 ρ1 env st1 v st' σ H1 Q p1.wld (E.step p1) h2 (Ct.of p1 c)
  | false => cases h2; exact (Ct.of p1 c).here p1.wld (rel_bl _)
theorem snd_or {rest : List Expr} (h : SndE X a A) (h' : SndE X (.BoolOp .Or (b :: rest) pos) B) : SndE X (.BoolOp .Or (a :: b :: rest) pos) (dOr A B) := fun F ρ env st v st' σ H Q W E h0 c => by
  obtain ⟨x, st1, h1, h2⟩ := mb_eq h0
  obtain ⟨k, st2, h3, h2⟩ := mb_eq h2
  obtain ⟨rfl, rfl⟩ := asB_eq h3
  refine wE_of (pe_or pe_w pe_w) (h F ρ env st _ st1 σ H _ W E h1 fun F1 ρ1 w1 H1 p1 r1 => ?_)
  refine ⟨k, bl_ok r1, ?_⟩
  cases k with
  | false => exact h' F1 ρ1 env st1 v st' σ H1 Q p1.wld (E.step p1) h2 (Ct.of p1 c)
  | true => cases h2; exact (Ct.of p1 c).here p1.wld (rel_bl _)
theorem snd_notV (h : SndE X a A) : SndE X (.UnaryOp .Not a pos) (dUn opNot A) := fun F ρ env st v st' σ H Q W E h0 c => by
  obtain ⟨x, st1, h1, h2⟩ := mb_eq h0
  refine wE_of (pe_not pe_w) (h F ρ env st x st1 σ H _ W E h1 fun F1 ρ1 w1 H1 p1 r1 => ?_)
  unfold opNot at h2
  split at h2
  · cases h2
    exact ⟨_, bl_ok r1, (Ct.of p1 c).here p1.wld (rel_bl _)⟩
  · cases h2

/-! arguments, displays -/
theorem snd_anil : SndA X [] aNil := fun F ρ env st v st' σ H Q W E h c => by
  cases h
  exact wA_of pa_nil (c F ρ _ H (Pst.refl W) .nil)
theorem snd_acons {es : List Expr} {D : DA} (hs : starEach (e :: es) X.env = (false, eval e X.env) :: starEach es X.env) (he : SndE X e A) (hr : SndA X es D) : SndA X (e :: es) (aCons A D) := fun F ρ env st v st' σ H Q W E h c => by
  obtain ⟨x, st1, h1, h⟩ := mb_eq h
  obtain ⟨xs, st2, h2, h⟩ := mb_eq h
  cases h
  refine wA_of (pa_cons pe_w pa_w hs) (he F ρ env st x st1 σ H _ W E h1 fun F1 ρ1 w1 H1 p1 r1 => ?_)
  exact hr F1 ρ1 env st1 xs st' σ H1 _ p1.wld (E.step p1) h2 fun F2 ρ2 w2 H2 p2 r2 => c F2 ρ2 _ H2 (p1.trans p2) (.cons (r1.step p2) r2)
theorem snd_tup {es : List Expr} {D : DA} {k : Nat} (h : SndA X es D) : SndE X (.Tuple es k pos) (dTup D) := fun F ρ env st v st' σ H Q W E h0 c => by
  obtain ⟨xs, st1, h1, h2⟩ := mb_eq h0
  refine wE_of (pe_tup pa_w) (h F ρ env st xs st1 σ H _ W E h1 fun F1 ρ1 w1 H1 p1 r1 => ?_)
  exact mkT_ok p1.wld r1 h2 (Ct.of p1 c)
theorem snd_lst {es : List Expr} {D : DA} {m : Bool} (h : SndA X es D) : SndE X (.List es pos) (dLst m D) := fun F ρ env st v st' σ H Q W E h0 c => by
  obtain ⟨xs, st1, h1, h2⟩ := mb_eq h0
  refine wE_of (pe_lst pa_w) (h F ρ env st xs st1 σ H _ W E h1 fun F1 ρ1 w1 H1 p1 r1 => ?_)
  exact mkL_ok p1.wld r1 h2 (Ct.of p1 c)
theorem snd_ix (hix : PlainIx b) (ha : SndE X a A) (hb : SndE X b B) {f : PV → PV → M PV} (hf : SndIx X f) : SndE X (.Subscript a b pos) (dBin f A B) := by
  intro F ρ env st v st' σ H Q W E h c
  refine wE_of (pe_ix ix_w pe_w pe_w hix) ?_
  exact two ha hb W E h fun F' ρ' x y w1 w2 st2 H' p r1 r2 h => hf F' ρ' st2 x y w1 w2 v st' H' Q p.wld r1 r2 h (Ct.of p c)
theorem snd_opIx : SndIx X opIx := by
  intro F ρ st x y w1 w2 v st' H Q W r1 r2 h c
  unfold opIx at h
  split at h
  · rename_i i
    cases int_ok r2
    split at h
    · rename_i xs hx
      cases e : atI xs i with
      | none => rw [e] at h; cases h
      | some u =>
        rw [e] at h
        cases h
        obtain ⟨a, vs, rfl, hq, r⟩ := seq_ok W r1 hx
        unfold atI at e
        cases ej : ixN xs.length i with
        | none => rw [ej] at e; cases e
        | some j =>
          rw [ej] at e
          obtain ⟨w, hw, rw'⟩ := r.get (i := j) e
          have at' : atI vs i = some w := by
            unfold atI
            rw [← r.length, ej]
            exact hw
          have q := c.here W rw'
          rcases hq with hq | hq
          · exact wIx_of ix_list ⟨a, vs, i, w, rfl, rfl, hq, at', q⟩
          · exact wIx_of ix_tup ⟨a, vs, i, w, rfl, rfl, hq, at', q⟩
    · cases h
  · cases h
end
end DL

/-! DL3: operators, comparisons, calls of built-ins and of the text's own defs. -/
namespace DL
open PySem PySem.Spec PyProof.Rows L2

/-! the order of tuples of ints -/
theorem lex_tot : ∀ a b : List Int, (lexLe a b || lexLe b a) = true
  | [], [] => rfl
  | [], _ :: _ => rfl
  | _ :: _, [] => rfl
  | x :: a, y :: b => by
    unfold lexLe
    rw [HT.lexLt_cons, HT.lexLt_cons]
    by_cases h : x = y
    · subst h
      rw [if_pos rfl, if_pos rfl]
      exact lex_tot a b
    · rw [if_neg h, if_neg (Ne.symm h)]
      by_cases h2 : x < y
      · rw [decide_eq_true h2, decide_eq_false (by omega)]; rfl
      · rw [decide_eq_false h2]; simp
theorem lex_anti : ∀ {a b : List Int}, lexLe a b = true → lexLe b a = true → a = b
  | [], [], _, _ => rfl
  | [], _ :: _, _, h => by cases h
  | _ :: _, [], h, _ => by cases h
  | x :: a, y :: b, h, k => by
    unfold lexLe at h k
    rw [HT.lexLt_cons] at h k
    by_cases e : x = y
    · subst e
      rw [if_pos rfl] at h k
      rw [lex_anti (a := a) (b := b) h k]
    · rw [if_neg (Ne.symm e)] at h
      rw [if_neg e] at k
      simp at h k
      omega
theorem lex_trans : ∀ {a b c : List Int}, lexLe a b = true → lexLe b c = true → lexLe a c = true
  | [], _, [], _, _ => rfl
  | [], _, _ :: _, _, _ => rfl
  | _ :: _, [], _, h, _ => by cases h
  | _ :: _, _ :: _, [], _, h => by cases h
  | x :: a, y :: b, z :: c, h, k => by
    unfold lexLe at h k ⊢
    rw [HT.lexLt_cons] at h k ⊢
    by_cases e : y = x
    · subst e
      rw [if_pos rfl] at h
      by_cases e2 : z = y
      · subst e2
        rw [if_pos rfl] at k ⊢
        exact lex_trans (a := a) (b := b) (c := c) h k
      · rw [if_neg e2] at k ⊢
        exact k
    · rw [if_neg e] at h
      by_cases e2 : z = y
      · subst e2
        rw [if_neg e]
        exact h
      · rw [if_neg e2] at k
        simp at h k
        rw [if_neg (by omega)]
        simp
        omega
theorem sortT_perm (ks : List (List Int)) : (sortT ks).Perm ks := List.mergeSort_perm ks _
theorem sortT_sorted (ks : List (List Int)) : (sortT ks).Pairwise fun a b => lexLe a b = true :=
  List.pairwise_mergeSort (le := lexLe) (fun a b c => lex_trans) (fun a b => lex_tot a b) ks
theorem sortT_uniq {ks ms : List (List Int)} (hp : ms.Perm ks) (hs : ms.Pairwise fun a b => lexLe a b = true) : ms = sortT ks :=
  List.Perm.eq_of_pairwise (le := fun a b => lexLe a b = true) (fun a b _ _ h1 h2 => lex_anti h1 h2) hs (sortT_sorted ks) (hp.trans (sortT_perm ks).symm)
theorem lexLt_code {B : Int} : ∀ {a b : List Int}, a.length = b.length → TS.Bd B a → TS.Bd B b → HT.lexLt a b = decide (TS.code B a < TS.code B b)
  | [], [], _, _, _ => by
    rw [HT.lexLt_nil_nil, decide_eq_false (Int.lt_irrefl _)]
  | x :: a, y :: b, hl, h1, h2 => by
    have hz : a.length = b.length := by simpa using hl
    clear hl
    rw [HT.lexLt_cons]
    by_cases e : x = y
    · subst e
      rw [if_pos rfl, lexLt_code hz h1.tail h2.tail]
      exact decide_eq_decide.mpr (TS.code_same hz).symm
    · rw [if_neg e]
      by_cases e2 : x < y
      · rw [decide_eq_true e2, decide_eq_true (TS.code_lt hz h1.tail h2.tail e2)]
      · have := TS.code_lt hz.symm h2.tail h1.tail (show y < x by omega)
        rw [decide_eq_false e2, decide_eq_false (by omega)]
theorem lexLe_code {B : Int} {a b : List Int} (hl : a.length = b.length) (h1 : TS.Bd B a) (h2 : TS.Bd B b) (h : TS.code B a ≤ TS.code B b) : lexLe a b = true := by
  unfold lexLe
  rw [lexLt_code hl.symm h2 h1, decide_eq_false (by omega)]
  rfl
theorem uniqT_mem {ks : List (List Int)} {x : List Int} : x ∈ uniqT ks ↔ x ∈ ks := by
  induction ks with
  | nil => exact Iff.rfl
  | cons k r ih =>
    unfold uniqT
    by_cases h : k ∈ r
    · rw [if_pos h, ih, List.mem_cons]
      constructor
      · exact .inr
      · rintro (rfl | h2)
        · exact h
        · exact h2
    · rw [if_neg h, List.mem_cons, List.mem_cons, ih]
theorem uniqT_nodup (ks : List (List Int)) : (uniqT ks).Nodup := by
  induction ks with
  | nil => exact List.nodup_nil
  | cons k r ih =>
    unfold uniqT
    by_cases h : k ∈ r
    · rw [if_pos h]; exact ih
    · rw [if_neg h]
      exact List.nodup_cons.mpr ⟨fun z => h (uniqT_mem.mp z), ih⟩
theorem perm_uniqT {ks ms : List (List Int)} (hn : ms.Nodup) (h : ∀ x, x ∈ ms ↔ x ∈ ks) : ms.Perm (uniqT ks) :=
  (List.perm_ext_iff_of_nodup hn (uniqT_nodup ks)).mpr fun x => by rw [h, uniqT_mem]
/-! lists of tuples of ints, as they lie -/
theorem perm_map_inv {α β : Type} {f : α → β} : ∀ {ys : List β} {l : List α}, ys.Perm (l.map f) → ∃ l' : List α, l'.Perm l ∧ ys = l'.map f
  | [], l, h => by
    have := h.nil_eq
    cases l with
    | nil => exact ⟨[], .refl _, rfl⟩
    | cons a l => cases this
  | y :: ys, l, h => by
    obtain ⟨a, ha, rfl⟩ := List.mem_map.mp (h.mem_iff.mp List.mem_cons_self)
    obtain ⟨s, t, rfl⟩ := List.append_of_mem ha
    have h2 : (f a :: ys).Perm (f a :: (s ++ t).map f) := by
      refine h.trans ?_
      rw [List.map_append, List.map_cons, List.map_append]
      exact List.perm_middle
    obtain ⟨l', p, e⟩ := perm_map_inv h2.cons_inv
    exact ⟨a :: l', (p.cons a).trans List.perm_middle.symm, by rw [e]; rfl⟩
theorem rel_tups {K : PySem.W.Frag} {F : Hp} {ρ : Nat → Addr} {n : Nat} : ∀ {xs : List PV} {vs : List V} {ks : List (List Int)}, tupsOf xs = some ks → RelPs K F ρ n xs vs → ∃ prs : List (Addr × List Int), vs = prs.map (fun p => V.ref p.1) ∧ ks = prs.map (·.2) ∧ ∀ p ∈ prs, SqT K F p.1 (p.2.map V.int)
  | [], vs, ks, h, r => by
    cases h
    rw [r.inv0]
    exact ⟨[], rfl, rfl, fun _ z => by cases z⟩
  | x :: xs, vs, ks, h, r => by
    obtain ⟨w, ws, rfl, h1, h2⟩ := r.inv
    unfold tupsOf at h
    split at h
    · rename_i e; cases e
    · rename_i ys r' e
      cases e
      split at h
      · rename_i ns ks' hn hk
        cases h
        obtain ⟨prs, rfl, rfl, hp⟩ := rel_tups hk h2
        rw [RelP] at h1
        obtain ⟨a, us, rfl, q, r3⟩ := h1
        have e2 := r3.intsInv hn
        subst e2
        refine ⟨(a, ns) :: prs, rfl, rfl, fun p z => ?_⟩
        rcases List.mem_cons.mp z with rfl | z
        · exact q
        · exact hp p z
      · cases h
    · cases h
theorem tups_rel {K : PySem.W.Frag} {F : Hp} {ρ : Nat → Addr} {n : Nat} : ∀ {prs : List (Addr × List Int)}, (∀ p ∈ prs, SqT K F p.1 (p.2.map V.int)) → RelPs K F ρ n (prs.map fun p => tupP p.2) (prs.map fun p => V.ref p.1)
  | [], _ => RelPs.nil
  | p :: prs, h => by
    refine RelPs.cons ?_ (tups_rel fun q z => h q (List.mem_cons_of_mem _ z))
    unfold tupP
    rw [RelP]
    exact ⟨p.1, p.2.map V.int, rfl, h p List.mem_cons_self, RelPs.ints _⟩
theorem tuple_mul1 (l : Addr) (items : Array Value) (n : Nat) (dd : Option Addr) (sl : Array (Option Value)) (u : Tok) :
    Meets (Builtin.«tuple.__mul__» ⟨[.ref l, .int 1 u], []⟩) (fun _ R s => s.heap.get? l = some { cls := .type "tuple", dict := dd, data := .seq items n, slots := sl } ∧ R (.ok (.ret (Value.ref l))) s) :=
  .of_wp fun prog w A R s h => by
    obtain ⟨hp, g, d, tk, os⟩ := s
    obtain ⟨hl, h⟩ := h
    have f1 := AutoSeq1.idx_int
    have c1 : (items.isEmpty || (1 : Int) == 1) = true := by rw [show ((1 : Int) == 1) = true from rfl, Bool.or_true]
    wp_walk using wpAny_loadPart' hl
    repeat (first
      | (refine wpAny_ite_false (decide_eq_false (by decide)) ?_; wp_walk using wpAny_loadPart' hl)
      | (refine wpAny_ite_true (decide_eq_true c1) ?_; wp_walk using wpAny_loadPart' hl))
    exact ⟨_, rfl, h⟩
theorem tuple_mul0 (l : Addr) (items : Array Value) (n : Nat) (dd : Option Addr) (sl : Array (Option Value)) (u : Tok) (hi : items.isEmpty = false) :
    Meets (Builtin.«tuple.__mul__» ⟨[.ref l, .int 0 u], []⟩) (fun _ R s => s.heap.get? l = some { cls := .type "tuple", dict := dd, data := .seq items n, slots := sl } ∧ R (.ok (.ret (Value.ref s.heap.objs.size))) { s with heap := s.heap.push { cls := Value.type "tuple", data := Data.seq #[] }, toks := s.toks }) :=
  .of_wp fun prog w A R s h => by
    obtain ⟨hp, g, d, tk, os⟩ := s
    obtain ⟨hl, h⟩ := h
    have f1 := AutoSeq1.idx_int
    have c1 : (items.isEmpty || (0 : Int) == 1) = false := by rw [hi]; rfl
    have c2 : (decide ((0 : Int) ≤ 0) || items.isEmpty) = true := by rw [hi]; rfl
    wp_walk using wpAny_loadPart' hl
    repeat (first
      | (refine wpAny_ite_false (decide_eq_false (by decide)) ?_; wp_walk using wpAny_loadPart' hl)
      | (refine wpAny_ite_false (decide_eq_false (by rw [c1]; exact Bool.false_ne_true)) ?_; wp_walk using wpAny_loadPart' hl)
      | (refine wpAny_ite_true (decide_eq_true c2) ?_; wp_walk using wpAny_loadPart' hl))
    exact ⟨_, rfl, h⟩
/-- t * k -/
def rRepA (K : PySem.W.Frag) : R2 := fun x y H Q => ∃ l k xs, x = .ref l ∧ y = .int k ∧ SqT K H l xs ∧ xs ≠ [] ∧ 0 ≤ k ∧ k ≤ 1000 ∧ xs.length ≤ 1000 ∧ (k = 1 → Q (.ref l) H) ∧ (k ≠ 1 → ∀ p, H p = none → Q (.ref p) (upd H p (.tup (List.replicate k.toNat xs).flatten)))
section
variable {X : Cx}
theorem op_repA : OpR X (binaryOp .Mult) (rRepA X.K) := by
  intro pins s σ H x y v u Q I rx ry h
  obtain ⟨l, k, xs, rfl, rfl, hT, hne, h0, h1, hz, q1, q⟩ := h
  by_cases h2 : 2 ≤ k
  · exact op_repT pins s σ H _ _ v u Q I rx ry ⟨l, k, xs, rfl, rfl, hT, hne, h2, h1, hz, q (by omega)⟩
  cases rx
  obtain ⟨t, rfl⟩ := ry
  obtain ⟨its, r, ⟨⟨cls, dd, data, sl⟩, ho, hc, n, hd⟩, hs⟩ := I.tuple hT
  simp only at hc hd
  subst hc hd
  have hle : its.length = xs.length := r.length.symm
  have hi : its.toArray.isEmpty = false := by
    cases its with
    | nil => exact absurd (List.eq_nil_of_length_eq_zero hle.symm) hne
    | cons a b => rfl
  by_cases hk : k = 1
  · subst hk
    refine wpAny_binaryOp_repeat_ref (T := "tuple") (U := "int") (by decide) ⟨_, ho, rfl⟩ (fun s' => typeIs_int s' 1 t) noFill_tuple_mul F.fills_int_mul F.slot_int_rmul repeat_tuple F.slot_int_index.lookup
      (call_meets F.slot_int_rmul (typeIs_int s 1 t) F.entry_int_rmul (F.args_int_rmul_2 _ _) (int_rmul_tuple 1 t l its.toArray n dd sl)
        ⟨ho, rfl, ⟨_, ho, rfl⟩, call_meets F.slot_tuple_mul ⟨_, ho, rfl⟩ F.entry_tuple_mul (F.args_tuple_mul_2 _ _) (tuple_mul1 l its.toArray n dd sl t) ⟨ho, ?_⟩⟩)
    exact ⟨.ref l, H, I, rfl, q1 rfl⟩
  · have hk : k = 0 := by omega
    subst hk
    refine wpAny_binaryOp_repeat_ref (T := "tuple") (U := "int") (by decide) ⟨_, ho, rfl⟩ (fun s' => typeIs_int s' 0 t) noFill_tuple_mul F.fills_int_mul F.slot_int_rmul repeat_tuple F.slot_int_index.lookup
      (call_meets F.slot_int_rmul (typeIs_int s 0 t) F.entry_int_rmul (F.args_int_rmul_2 _ _) (int_rmul_tuple 0 t l its.toArray n dd sl)
        ⟨ho, rfl, ⟨_, ho, rfl⟩, call_meets F.slot_tuple_mul ⟨_, ho, rfl⟩ F.entry_tuple_mul (F.args_tuple_mul_2 _ _) (tuple_mul0 l its.toArray n dd sl t hi) ⟨ho, ?_⟩⟩)
    refine ⟨.ref s.heap.objs.size, _, I.laid (t' := s.toks) (o := .tup (List.replicate (0 : Int).toNat xs).flatten) (fun b ob q => Heap.get?_push_of_some _ q) (Nat.le_refl _) ?_, rfl, q (by omega) _ (I.hok.fresh (Nat.le_refl _))⟩
    exact ⟨by show ([] : List V).length ≤ sizeLine; exact Nat.zero_le _, _, Paired.nil, IsTup.new _ _⟩
theorem vals3 {x y z : V} {us : List Value} (r : Vals [x, y, z] us) : ∃ u w t, us = [u, w, t] ∧ RelV x u ∧ RelV y w ∧ RelV z t := by
  cases r with
  | cons r1 r2 =>
    obtain ⟨u, w, rfl, a, b⟩ := vals2 r2
    exact ⟨_, _, _, rfl, r1, a, b⟩
theorem call_max3 (hc : X.calm = true) : CallR X (.builtin "max") (fun xs H Q => ∃ i j k, xs = [.int i, .int j, .int k] ∧ Q (.int (if j > i then (if k > j then k else j) else (if k > i then k else i))) H) := by
  intro pins s σ H xs us Q I r h
  obtain ⟨i, j, k, rfl, q⟩ := h
  obtain ⟨u, w', z, rfl, ⟨t, rfl⟩, ⟨t', rfl⟩, ⟨t'', rfl⟩⟩ := vals3 r
  refine max_three_ints (I.ok.hd hc) fun h' tk kk => ⟨_, H, I.kept kk, ?_, q⟩
  by_cases hj : j > i
  · rw [if_pos hj, if_pos hj]
    by_cases hk : k > j
    · rw [if_pos hk, if_pos hk]; exact ⟨_, rfl⟩
    · rw [if_neg hk, if_neg hk]; exact ⟨_, rfl⟩
  · rw [if_neg hj, if_neg hj]
    by_cases hk : k > i
    · rw [if_pos hk, if_pos hk]; exact ⟨_, rfl⟩
    · rw [if_neg hk, if_neg hk]; exact ⟨_, rfl⟩
theorem call_min3 (hc : X.calm = true) : CallR X (.builtin "min") (fun xs H Q => ∃ i j k, xs = [.int i, .int j, .int k] ∧ Q (.int (if j < i then (if k < j then k else j) else (if k < i then k else i))) H) := by
  intro pins s σ H xs us Q I r h
  obtain ⟨i, j, k, rfl, q⟩ := h
  obtain ⟨u, w', z, rfl, ⟨t, rfl⟩, ⟨t', rfl⟩, ⟨t'', rfl⟩⟩ := vals3 r
  refine min_three_ints (I.ok.hd hc) fun h' tk kk => ⟨_, H, I.kept kk, ?_, q⟩
  by_cases hj : j < i
  · rw [if_pos hj, if_pos hj]
    by_cases hk : k < j
    · rw [if_pos hk, if_pos hk]; exact ⟨_, rfl⟩
    · rw [if_neg hk, if_neg hk]; exact ⟨_, rfl⟩
  · rw [if_neg hj, if_neg hj]
    by_cases hk : k < i
    · rw [if_pos hk, if_pos hk]; exact ⟨_, rfl⟩
    · rw [if_neg hk, if_neg hk]; exact ⟨_, rfl⟩
end
section
variable {X : Cx}
theorem so_add {m : Bool} : SndO X (binaryOp .Add) (opAdd m) := by
  intro F ρ st x y w1 w2 v st' H Q W r1 r2 h c
  unfold opAdd at h
  split at h
  · cases h
    cases int_ok r1; cases int_ok r2
    exact wR_of op_add ⟨_, _, rfl, rfl, c.here W (rel_int _)⟩
  · split at h
    · rename_i hz
      cases h
      cases str_ok r1; cases str_ok r2
      exact wR_of op_add_str ⟨_, _, rfl, rfl, hz, c.here W (rel_str _)⟩
    · cases h
  · rename_i a b
    split at h
    · rename_i hz
      cases h
      obtain ⟨p, vs, rfl, q1, s1⟩ := tup_ok W r1
      obtain ⟨p', vs', rfl, q2, s2⟩ := tup_ok W r2
      refine wR_of op_catA ⟨_, _, vs, vs', rfl, rfl, q1, q2, by rw [← s1.length, ← s2.length]; exact hz, fun e => ?_, fun e e' => ?_, fun e e' p hp => ?_⟩
      · subst e
        have : a = [] := List.eq_nil_of_length_eq_zero s1.length
        subst this
        exact c.here W r2
      · subst e'
        have : b = [] := List.eq_nil_of_length_eq_zero s2.length
        subst this
        rw [List.append_nil] at c
        exact c.here W r1
      · exact tupV_ok W (s1.append s2) c hp
    · cases h
  · split at h
    · rename_i a b ha hb
      obtain ⟨p, vs, rfl, q1, s1⟩ := lst_ok W r1 ha
      obtain ⟨p', vs', rfl, q2, s2⟩ := lst_ok W r2 hb
      obtain ⟨hz, k⟩ := mkL_ok W (s1.append s2) h c
      exact wR_of op_cat ⟨_, _, vs, vs', rfl, rfl, q1, q2, by rw [← List.length_append]; exact hz, k⟩
    · cases h
theorem so_sub : SndO X (binaryOp .Sub) opSub := by
  intro F ρ st x y w1 w2 v st' H Q W r1 r2 h c
  unfold opSub at h
  split at h
  · cases h
    cases int_ok r1; cases int_ok r2
    exact wR_of op_sub ⟨_, _, rfl, rfl, c.here W (rel_int _)⟩
  · cases h
theorem so_mul : SndO X (binaryOp .Mult) opMul := by
  intro F ρ st x y w1 w2 v st' H Q W r1 r2 h c
  unfold opMul at h
  split at h
  · split at h
    · rename_i hz
      cases h
      cases int_ok r1; cases int_ok r2
      exact wR_of op_mul ⟨_, _, rfl, rfl, okMul_iff.mp hz, c.here W (rel_int _)⟩
    · cases h
  · rename_i xs k
    split at h
    · rename_i hz
      cases h
      obtain ⟨z0, z1, z2, z3⟩ := okRep_iff.mp hz
      obtain ⟨p, vs, rfl, q1, s1⟩ := tup_ok W r1
      cases int_ok r2
      have hl := s1.length
      refine wR_of op_repA ⟨p, k, vs, rfl, rfl, q1, fun e => ?_, z2, z3, by omega, fun e => ?_, fun e p hp => ?_⟩
      · subst e
        rw [List.length_nil] at hl
        omega
      · subst e
        have : (List.replicate (1 : Int).toNat xs).flatten = xs := by
          show (List.replicate 1 xs).flatten = xs
          simp
        rw [this] at c
        exact c.here W r1
      · exact tupV_ok W (s1.replicate _) c hp
    · cases h
  · cases h
theorem so_mod : SndO X (binaryOp .Mod) opMod := by
  intro F ρ st x y w1 w2 v st' H Q W r1 r2 h c
  unfold opMod at h
  split at h
  · split at h
    · rename_i hz
      cases h
      cases int_ok r1; cases int_ok r2
      exact wR_of op_mod ⟨_, _, rfl, rfl, okMod_iff.mp hz, c.here W (rel_int _)⟩
    · cases h
  · cases h
theorem so_div : SndO X (binaryOp .FloorDiv) opDiv := by
  intro F ρ st x y w1 w2 v st' H Q W r1 r2 h c
  unfold opDiv at h
  split at h
  · split at h
    · rename_i hz
      cases h
      cases int_ok r1; cases int_ok r2
      exact wR_of op_fdiv ⟨_, _, rfl, rfl, okDiv_iff.mp hz, c.here W (rel_int _)⟩
    · cases h
  · cases h
theorem so_pow : SndO X (binaryOp .Pow) opPow := by
  intro F ρ st x y w1 w2 v st' H Q W r1 r2 h c
  unfold opPow at h
  split at h
  · split at h
    · rename_i hz
      cases h
      cases int_ok r1; cases int_ok r2
      exact wR_of op_pow ⟨_, _, rfl, rfl, okPow_iff.mp hz, c.here W (rel_int _)⟩
    · cases h
  · cases h
theorem su_neg : SndU X (unaryOp .USub) opNeg := by
  intro F ρ st x w1 v st' H Q W r1 h c
  unfold opNeg at h
  split at h
  · cases h
    cases int_ok r1
    exact wU_of un_neg ⟨_, rfl, c.here W (rel_int _)⟩
  · cases h
theorem so_cmpI {op : CmpOp} {p : Int → Int → Bool} (hr : OpR X (compareOp op) (rI0 fun i j => .bl (p i j))) : SndO X (compareOp op) (cmpI p) := by
  intro F ρ st x y w1 w2 v st' H Q W r1 r2 h c
  unfold cmpI at h
  split at h
  · cases h
    cases int_ok r1; cases int_ok r2
    exact wR_of hr ⟨_, _, rfl, rfl, c.here W (rel_bl _)⟩
  · cases h
theorem so_lt (hu : X.A.units + 65 < cLine) : SndO X (compareOp .Lt) cmpLt := by
  intro F ρ st x y w1 w2 v st' H Q W r1 r2 h c
  unfold cmpLt at h
  split at h
  · cases h
    cases int_ok r1; cases int_ok r2
    exact wR_of op_lt ⟨_, _, rfl, rfl, c.here W (rel_bl _)⟩
  · split at h
    · rename_i ns ms h1 h2
      cases h
      obtain ⟨p, vs, rfl, q1, s1⟩ := tup_ok W r1
      obtain ⟨p', vs', rfl, q2, s2⟩ := tup_ok W r2
      have e1 := s1.intsInv h1
      have e2 := s2.intsInv h2
      subst e1 e2
      exact wR_of (op_ltT (by omega)) ⟨_, _, ns, ms, rfl, rfl, q1, q2, c.here W (rel_bl _)⟩
    · cases h
  · cases h
theorem so_le : SndO X (compareOp .LtE) (cmpI fun i j => decide (i ≤ j)) := so_cmpI op_le
theorem so_gt : SndO X (compareOp .Gt) (cmpI fun i j => decide (j < i)) := so_cmpI op_gt
theorem so_ge : SndO X (compareOp .GtE) (cmpI fun i j => decide (j ≤ i)) := so_cmpI op_ge

/-! == -/
mutual
theorem dp_ok {K : PySem.W.Frag} {F H : Hp} {ρ : Nat → Addr} {n : Nat} {cs : Nat → Option Cell} (s : Sub F H) : ∀ {x : PV} {w : V} {d : PyData}, RelP K F ρ n x w → x.toD cs = some d → Dp K H w d
  | .non, _, _, r, h => by rw [PV.toD] at h; cases h; rw [non_ok r]; exact .non
  | .bl _, _, _, r, h => by rw [PV.toD] at h; cases h; rw [bl_ok r]; exact .bl _
  | .int _, _, _, r, h => by rw [PV.toD] at h; cases h; rw [int_ok r]; exact .int _
  | .str _, _, _, r, h => by rw [PV.toD] at h; cases h; rw [str_ok r]; exact .str _
  | .tup xs, _, _, r, h => by
    rw [PV.toD] at h
    rw [RelP] at r
    obtain ⟨a, vs, rfl, q, r⟩ := r
    cases e : toDs cs xs with
    | none => rw [e] at h; cases h
    | some ds =>
      rw [e] at h; cases h
      exact .tup (s.sqT q) (dps_ok s r e)
  | .lst xs, _, _, r, h => by
    rw [PV.toD] at h
    rw [RelP] at r
    obtain ⟨a, vs, rfl, q, r⟩ := r
    cases e : toDs cs xs with
    | none => rw [e] at h; cases h
    | some ds =>
      rw [e] at h; cases h
      exact .lst (.inl (.inl (s _ _ q))) (dps_ok s r e)
  | .ro xs, _, _, r, h => by
    rw [PV.toD] at h
    rw [RelP] at r
    obtain ⟨a, vs, rfl, q, r⟩ := r
    cases e : toDs cs xs with
    | none => rw [e] at h; cases h
    | some ds =>
      rw [e] at h; cases h
      exact .lst (s.sqL q) (dps_ok s r e)
  | .dct _ _, _, _, _, h => by rw [PV.toD] at h; cases h
  | .loc _, _, _, _, h => by rw [PV.toD] at h; cases h
theorem dps_ok {K : PySem.W.Frag} {F H : Hp} {ρ : Nat → Addr} {n : Nat} {cs : Nat → Option Cell} (s : Sub F H) : ∀ {xs : List PV} {ws : List V} {ds : List PyData}, RelPs K F ρ n xs ws → toDs cs xs = some ds → DpAll K H ws ds
  | [], _, _, r, h => by rw [toDs] at h; cases h; rw [r.inv0]; exact .nil
  | x :: r, _, _, rr, h => by
    rw [toDs] at h
    obtain ⟨w, ws, rfl, h1, h2⟩ := rr.inv
    cases e : x.toD cs with
    | none => rw [e] at h; cases h
    | some d =>
      cases e2 : toDs cs r with
      | none => rw [e, e2] at h; cases h
      | some ds =>
        rw [e, e2] at h; cases h
        exact .cons (dp_ok s h1 e) (dps_ok s h2 e2)
end
theorem dpd_ok {F : Hp} {ρ : Nat → Addr} {st : Sto} {H : Hp} {x : PV} {w : V} {d : PyData} (W : Wld X.K F ρ st H) (r : RelP X.K F ρ st.nxt x w) (h : (derf st x).toD st.cs = some d) : Dp X.K H w d := by
  unfold derf at h
  split at h
  · rename_i l
    split at h
    · rename_i c hc
      rw [RelP] at r
      obtain ⟨_, rfl⟩ := r
      obtain ⟨_, q⟩ := W.cell l c hc
      cases c with
      | lst xs =>
        obtain ⟨vs, e, q⟩ := q
        have h : (PV.lst xs).toD st.cs = some d := h
        rw [PV.toD] at h
        cases e2 : toDs st.cs xs with
        | none => rw [e2] at h; cases h
        | some ds =>
          rw [e2] at h; cases h
          exact .lst (.inl (.inl e)) (dps_ok W.sub q e2)
      | dct _ _ => exact q.elim
    · rw [PV.toD] at h; cases h
  · exact dp_ok W.sub r h
theorem so_eq (hu : X.A.units + 65 < cLine) : SndO X (compareOp .Eq) (cmpEq false) := by
  intro F ρ st x y w1 w2 v st' H Q W r1 r2 h c
  unfold cmpEq at h
  split at h
  · rename_i d e hd he
    split at h
    · rename_i hs
      cases h
      rw [Bool.and_eq_true] at hs
      have q := c.here W (rel_bl _)
      rw [Bool.bne_false] at q
      exact wR_of (op_eqD (by omega)) ⟨d, e, dpd_ok W r1 hd, dpd_ok W r2 he, hs.1, hs.2, q⟩
    · cases h
  · cases h
theorem so_ne (hu : X.A.units + 65 < cLine) : SndO X (compareOp .NotEq) (cmpEq true) := by
  intro F ρ st x y w1 w2 v st' H Q W r1 r2 h c
  unfold cmpEq at h
  split at h
  · rename_i d e hd he
    split at h
    · rename_i hs
      cases h
      rw [Bool.and_eq_true] at hs
      have q := c.here W (rel_bl _)
      rw [Bool.bne_true] at q
      exact wR_of (op_neD (by omega)) ⟨d, e, dpd_ok W r1 hd, dpd_ok W r2 he, hs.1, hs.2, q⟩
    · cases h
  · cases h
/-! in -/
theorem flat_ok {K : PySem.W.Frag} {F : Hp} {ρ : Nat → Addr} {n : Nat} {x : PV} {w : V} (r : RelP K F ρ n x w) (h : flatP x = true) : flatV w = true := by
  cases x with
  | non => rw [non_ok r]; rfl
  | bl b => rw [bl_ok r]; rfl
  | int b => rw [int_ok r]; rfl
  | str b => rw [str_ok r]; rfl
  | _ => exact absurd (show false = true from h) Bool.false_ne_true
theorem eqP_ok {K : PySem.W.Frag} {F : Hp} {ρ : Nat → Addr} {n : Nat} {x y : PV} {w u : V} (r : RelP K F ρ n x w) (r' : RelP K F ρ n y u) (h : flatP x = true) (h' : flatP y = true) : eqV w u = eqP x y := by
  cases x with
  | non =>
    rw [non_ok r]
    cases y with
    | non => rw [non_ok r']; rfl
    | bl b => rw [bl_ok r']; rfl
    | int b => rw [int_ok r']; rfl
    | str b => rw [str_ok r']; rfl
    | _ => exact absurd (show false = true from h') Bool.false_ne_true
  | bl b =>
    rw [bl_ok r]
    cases y with
    | non => rw [non_ok r']; rfl
    | bl b => rw [bl_ok r']; rfl
    | int b => rw [int_ok r']; rfl
    | str b => rw [str_ok r']; rfl
    | _ => exact absurd (show false = true from h') Bool.false_ne_true
  | int b =>
    rw [int_ok r]
    cases y with
    | non => rw [non_ok r']; rfl
    | bl b => rw [bl_ok r']; rfl
    | int b => rw [int_ok r']; rfl
    | str b => rw [str_ok r']; rfl
    | _ => exact absurd (show false = true from h') Bool.false_ne_true
  | str b =>
    rw [str_ok r]
    cases y with
    | non => rw [non_ok r']; rfl
    | bl b => rw [bl_ok r']; rfl
    | int b => rw [int_ok r']; rfl
    | str b => rw [str_ok r']; rfl
    | _ => exact absurd (show false = true from h') Bool.false_ne_true
  | _ => exact absurd (show false = true from h) Bool.false_ne_true
theorem flats_ok {K : PySem.W.Frag} {F : Hp} {ρ : Nat → Addr} {n : Nat} {x : PV} {w : V} (r : RelP K F ρ n x w) (h : flatP x = true) : ∀ {ys : List PV} {us : List V}, RelPs K F ρ n ys us → ys.all flatP = true → us.all flatV = true ∧ (us.any fun y => eqV y w) = ys.any fun z => eqP z x
  | [], _, q, _ => by rw [q.inv0]; exact ⟨rfl, rfl⟩
  | y :: ys, _, q, f => by
    obtain ⟨u, us, rfl, q1, q2⟩ := q.inv
    rw [List.all_cons, Bool.and_eq_true] at f
    obtain ⟨i1, i2⟩ := flats_ok r h q2 f.2
    rw [List.all_cons, List.any_cons, List.any_cons, i1, i2, flat_ok q1 f.1, eqP_ok q1 r f.1 h]
    exact ⟨rfl, rfl⟩
theorem so_in (hu : X.A.units + 65 < cLine) : SndO X (compareOp .In) (cmpIn false) := by
  intro F ρ st x y w1 w2 v st' H Q W r1 r2 h c
  unfold cmpIn at h
  split at h
  · rename_i ys hy
    split at h
    · rename_i hf
      cases h
      rw [Bool.and_eq_true] at hf
      obtain ⟨a, vs, rfl, hq, r⟩ := seq_ok W r2 hy
      obtain ⟨f1, f2⟩ := flats_ok r1 hf.1 r hf.2
      have q := c.here W (rel_bl _)
      rw [Bool.bne_false, ← f2] at q
      exact wR_of op_in_seq ⟨a, vs, rfl, hq, flat_ok r1 hf.1, f1, q⟩
    · split at h
      · rename_i ys hy
        split at h
        · rename_i d ds hd hds
          split at h
          · rename_i hs
            cases h
            rw [Bool.and_eq_true] at hs
            obtain ⟨a, vs, rfl, hq, r⟩ := lst_ok W r2 hy
            have q := c.here W (rel_bl _)
            rw [Bool.bne_false] at q
            exact wR_of (op_inD hu) ⟨d, ds, dpd_ok W r1 hd, .lst (.inl (.inl hq)) (dps_ok W.sub r hds), hs.1, hs.2, q⟩
          · cases h
        · cases h
      · cases h
  · cases h
theorem so_notIn (hu : X.A.units + 65 < cLine) : SndO X (compareOp .NotIn) (cmpIn true) := by
  intro F ρ st x y w1 w2 v st' H Q W r1 r2 h c
  unfold cmpIn at h
  split at h
  · rename_i ys hy
    split at h
    · rename_i hf
      cases h
      rw [Bool.and_eq_true] at hf
      obtain ⟨a, vs, rfl, hq, r⟩ := seq_ok W r2 hy
      obtain ⟨f1, f2⟩ := flats_ok r1 hf.1 r hf.2
      have q := c.here W (rel_bl _)
      rw [Bool.bne_true, ← f2] at q
      exact wR_of op_notIn_seq ⟨a, vs, rfl, hq, flat_ok r1 hf.1, f1, q⟩
    · split at h
      · rename_i ys hy
        split at h
        · rename_i d ds hd hds
          split at h
          · rename_i hs
            cases h
            rw [Bool.and_eq_true] at hs
            obtain ⟨a, vs, rfl, hq, r⟩ := lst_ok W r2 hy
            have q := c.here W (rel_bl _)
            rw [Bool.bne_true] at q
            exact wR_of (op_notInD hu) ⟨d, ds, dpd_ok W r1 hd, .lst (.inl (.inl hq)) (dps_ok W.sub r hds), hs.1, hs.2, q⟩
          · cases h
        · cases h
      · cases h
  · cases h

/-! ### chains, conditions -/
variable {pos : Pos} {a b c e : Expr} {A B C : DE}
theorem snd_ite {t : Expr} {T : DT} (ht : SndT X t T) (ha : SndE X a A) (hb : SndE X b B) : SndE X (.IfExp t a b pos) (dIte T A B) := by
  intro F ρ env st v st' σ H Q W E h c
  obtain ⟨k, st1, h1, h2⟩ := mb_eq h
  refine wE_of (pe_ifExp pt_w pe_w pe_w) (ht F ρ env st k st1 σ H _ W E h1 fun F1 ρ1 H1 p1 => ?_)
  cases k with
  | true => exact ha F1 ρ1 env st1 v st' σ H1 Q p1.wld (E.step p1) h2 (Ct.of p1 c)
  | false => exact hb F1 ρ1 env st1 v st' σ H1 Q p1.wld (E.step p1) h2 (Ct.of p1 c)

/-! ### slices -/
def SndOp (X : Cx) (oe : Option Expr) (D : DO) : Prop := ∃ t, PO X oe t ∧ ∀ F ρ env st o st' σ H Q, Wld X.K F ρ st H → ERel X.K F ρ st.nxt env σ → D env st = some (o, st') →
  (∀ F' ρ' H', Pst X.K F ρ st H F' ρ' st' H' → Q o H') → t σ H Q
theorem sop_none : SndOp X none oNone := ⟨_, po_none, fun F ρ env st o st' σ H Q W E h c => by cases h; exact c F ρ H (Pst.refl W)⟩
theorem sop_some (ha : SndE X a A) : SndOp X (some a) (oSome A) := ⟨_, po_some pe_w, fun F ρ env st o st' σ H Q W E h c => by
  obtain ⟨x, st1, h1, h2⟩ := mb_eq h
  refine ha F ρ env st x st1 σ H _ W E h1 fun F1 ρ1 w1 H1 p1 r1 => ?_
  split at h2
  · cases h2
    exact ⟨_, int_ok r1, c F1 ρ1 H1 p1⟩
  · cases h2⟩
theorem RelPs.cut {K : PySem.W.Frag} {F : Hp} {ρ : Nat → Addr} {n : Nat} {xs : List PV} {vs : List V} (r : RelPs K F ρ n xs vs) (lo hi : Option Int) : RelPs K F ρ n (cutP xs lo hi) (cutV vs lo hi) := by
  unfold cutP cutV
  rw [r.length]
  exact (r.drop _).take _
theorem cut_whole {xs : List PV} {lo hi : Option Int} (h : HT.sIx xs.length 0 lo = 0 ∧ HT.sIx xs.length xs.length hi = xs.length) : cutP xs lo hi = xs := by
  unfold cutP
  rw [h.1, h.2, List.drop_zero, Nat.sub_zero, List.take_length]
theorem snd_sl {m : Bool} {lo hi : Option Expr} {L U : DO} {p2 : Pos} (ha : SndE X a A) (hl : SndOp X lo L) (hu : SndOp X hi U) : SndE X (.Subscript a (.Slice lo hi none p2) pos) (dSl m A L U) := by
  intro F ρ env st v st' σ H Q W E h c
  obtain ⟨tl, pl, kl⟩ := hl
  obtain ⟨tu, pu, ku⟩ := hu
  obtain ⟨x, st1, h1, h⟩ := mb_eq h
  obtain ⟨l, st2, h2, h⟩ := mb_eq h
  obtain ⟨u, st3, h3, h⟩ := mb_eq h
  refine wE_of (pe_slice (SlR.or sl_list sl_tupA) pe_w pl pu) ?_
  refine ha F ρ env st x st1 σ H _ W E h1 fun F1 ρ1 w1 H1 p1 r1 => ?_
  refine kl F1 ρ1 env st1 l st2 σ H1 _ p1.wld (E.step p1) h2 fun F2 ρ2 H2 p2 => ?_
  refine ku F2 ρ2 env st2 u st3 σ H2 _ p2.wld ((E.step p1).step p2) h3 fun F3 ρ3 H3 p3 => ?_
  have r3 := (r1.step p2).step p3
  have W3 := p3.wld
  have c3 := Ct.of ((p1.trans p2).trans p3) c
  split at h
  · cases h
    obtain ⟨p, vs, rfl, q, r⟩ := tup_ok W3 r3
    refine .inr ⟨p, vs, rfl, q, fun hw => ?_, fun _ p' hp => ?_⟩
    · rw [← r.length] at hw
      rw [cut_whole hw] at c3
      exact c3.here W3 r3
    · exact tupV_ok W3 (r.cut _ _) c3 hp
  · split at h
    · rename_i xs hx
      obtain ⟨p, vs, rfl, q, r⟩ := lst_ok W3 r3 hx
      exact .inl ⟨p, vs, rfl, .inl (.inl q), (mkL_ok W3 (r.cut _ _) h c3).2⟩
    · cases h

/-! ### calls -/
theorem snd_callB {x : Str} {p : Pos} {es : List Expr} {id : String} {D : DA} {f : FSem} (hf : SndC X (.builtin id) f) (hg : Gl X x) (hm : X.mg x = none) (hv : bootBuiltins x = some (.builtin id)) (ha : SndA X (e :: es) D) (hn : x ≠ "__name__") (hdb : (x == ("__debug__" : Str)) = false)
    (he : starEach (e :: es) X.env = (false, eval e X.env) :: starEach es X.env) (hpl : (backTo pos (starEach es X.env)).any (·.1) = false) : SndE X (.Call (.Name x p) (e :: es) [] pos) (dApp f D) := by
  intro F ρ env st v st' σ H Q W E h c
  obtain ⟨xs, st1, h1, h⟩ := mb_eq h
  refine wE_of (pe_callB cr_w hg hm hv pa_w hn hdb he hpl) ?_
  exact ha F ρ env st xs st1 σ H _ W E h1 fun F1 ρ1 w1 H1 p1 r1 => hf F1 ρ1 st1 xs w1 v st' H1 Q p1.wld r1 h (Ct.of p1 c)
theorem snd_callTy {x : Str} {p : Pos} {es : List Expr} {T : String} {D : DA} {f : FSem} (hf : SndC X (.type T) f) (hg : Gl X x) (hm : X.mg x = none) (hv : bootBuiltins x = some (.type T)) (ha : SndA X (e :: es) D) (hn : x ≠ "__name__") (hdb : (x == ("__debug__" : Str)) = false)
    (he : starEach (e :: es) X.env = (false, eval e X.env) :: starEach es X.env) (hpl : (backTo pos (starEach es X.env)).any (·.1) = false) : SndE X (.Call (.Name x p) (e :: es) [] pos) (dApp f D) := by
  intro F ρ env st v st' σ H Q W E h c
  obtain ⟨xs, st1, h1, h⟩ := mb_eq h
  refine wE_of (pe_callTy cr_w hg hm hv pa_w hn hdb he hpl) ?_
  exact ha F ρ env st xs st1 σ H _ W E h1 fun F1 ρ1 w1 H1 p1 r1 => hf F1 ρ1 st1 xs w1 v st' H1 Q p1.wld r1 h (Ct.of p1 c)
theorem one_inv {K : PySem.W.Frag} {F : Hp} {ρ : Nat → Addr} {n : Nat} {x : PV} {ws : List V} (r : RelPs K F ρ n [x] ws) : ∃ w, ws = [w] ∧ RelP K F ρ n x w := by
  obtain ⟨w, ws, rfl, h1, h2⟩ := r.inv
  rw [h2.inv0]
  exact ⟨w, rfl, h1⟩
theorem two_inv {K : PySem.W.Frag} {F : Hp} {ρ : Nat → Addr} {n : Nat} {x y : PV} {ws : List V} (r : RelPs K F ρ n [x, y] ws) : ∃ w u, ws = [w, u] ∧ RelP K F ρ n x w ∧ RelP K F ρ n y u := by
  obtain ⟨w, ws, rfl, h1, h2⟩ := r.inv
  obtain ⟨u, rfl, h3⟩ := one_inv h2
  exact ⟨w, u, rfl, h1, h3⟩
theorem three_inv {K : PySem.W.Frag} {F : Hp} {ρ : Nat → Addr} {n : Nat} {x y z : PV} {ws : List V} (r : RelPs K F ρ n [x, y, z] ws) : ∃ w u t, ws = [w, u, t] ∧ RelP K F ρ n x w ∧ RelP K F ρ n y u ∧ RelP K F ρ n z t := by
  obtain ⟨w, ws, rfl, h1, h2⟩ := r.inv
  obtain ⟨u, t, rfl, h3, h4⟩ := two_inv h2
  exact ⟨w, u, t, rfl, h1, h3, h4⟩
theorem sc_len : SndC X (.builtin "len") bLen := by
  intro F ρ st xs ws v st' H Q W r h c
  unfold bLen at h
  split at h
  · split at h
    · rename_i hz
      cases h
      obtain ⟨w, rfl, r1⟩ := one_inv r
      cases str_ok r1
      exact wC_of call_len_str ⟨_, rfl, hz, c.here W (rel_int _)⟩
    · cases h
  · split at h
    · rename_i xs hx
      cases h
      obtain ⟨w, rfl, r1⟩ := one_inv r
      obtain ⟨a, vs, rfl, hq, r2⟩ := seq_ok W r1 hx
      have q := c.here W (rel_int _)
      rw [r2.length] at q
      exact wC_of call_len_seq ⟨a, vs, rfl, hq, q⟩
    · cases h
  · cases h
theorem sc_abs : SndC X (.builtin "abs") bAbs := by
  intro F ρ st xs ws v st' H Q W r h c
  unfold bAbs at h
  split at h
  · cases h
    obtain ⟨w, rfl, r1⟩ := one_inv r
    cases int_ok r1
    exact wC_of call_abs ⟨_, rfl, c.here W (rel_int _)⟩
  · cases h
theorem sc_int : SndC X (.type "int") bInt := by
  intro F ρ st xs ws v st' H Q W r h c
  unfold bInt at h
  split at h
  · cases h
    obtain ⟨w, rfl, r1⟩ := one_inv r
    cases int_ok r1
    exact wC_of call_int1 (.inl ⟨_, rfl, c.here W (rel_int _)⟩)
  · cases h
    obtain ⟨w, rfl, r1⟩ := one_inv r
    cases bl_ok r1
    exact wC_of call_int1 (.inr ⟨_, rfl, c.here W (rel_int _)⟩)
  · cases h
theorem maxL_spec : ∀ (x : Int) (r : List Int), maxL (x :: r) ∈ x :: r ∧ ∀ y ∈ x :: r, y ≤ maxL (x :: r)
  | x, [] => ⟨by simp [maxL], fun y h => by simp at h; subst h; exact Int.le_refl _⟩
  | x, z :: r => by
    obtain ⟨h1, h2⟩ := maxL_spec z r
    have e : maxL (x :: z :: r) = max x (maxL (z :: r)) := rfl
    rw [e]
    refine ⟨?_, fun y h => ?_⟩
    · by_cases q : x ≤ maxL (z :: r)
      · rw [Int.max_eq_right q]; exact List.mem_cons_of_mem _ h1
      · rw [Int.max_eq_left (by omega)]; exact List.mem_cons_self
    · rcases List.mem_cons.mp h with rfl | h
      · omega
      · have := h2 y h
        omega
theorem minL_spec : ∀ (x : Int) (r : List Int), minL (x :: r) ∈ x :: r ∧ ∀ y ∈ x :: r, minL (x :: r) ≤ y
  | x, [] => ⟨by simp [minL], fun y h => by simp at h; subst h; exact Int.le_refl _⟩
  | x, z :: r => by
    obtain ⟨h1, h2⟩ := minL_spec z r
    have e : minL (x :: z :: r) = min x (minL (z :: r)) := rfl
    rw [e]
    refine ⟨?_, fun y h => ?_⟩
    · by_cases q : x ≤ minL (z :: r)
      · rw [Int.min_eq_left q]; exact List.mem_cons_self
      · rw [Int.min_eq_right (by omega)]; exact List.mem_cons_of_mem _ h1
    · rcases List.mem_cons.mp h with rfl | h
      · omega
      · have := h2 y h
        omega
theorem sc_max (hc : X.calm = true) : SndC X (.builtin "max") bMax := by
  intro F ρ st xs ws v st' H Q W r h c
  unfold bMax at h
  split at h
  · cases h
    obtain ⟨w, u, rfl, r1, r2⟩ := two_inv r
    cases int_ok r1; cases int_ok r2
    exact wC_of (call_max2 hc) ⟨_, _, rfl, c.here W (rel_int _)⟩
  · cases h
    obtain ⟨w, u, z, rfl, r1, r2, r3⟩ := three_inv r
    cases int_ok r1; cases int_ok r2; cases int_ok r3
    exact wC_of (call_max3 hc) ⟨_, _, _, rfl, c.here W (rel_int _)⟩
  · split at h
    · rename_i xs hx
      split at h
      · rename_i i l hl
        cases h
        obtain ⟨w, rfl, r1⟩ := one_inv r
        obtain ⟨a, vs, rfl, hq, r2⟩ := lst_ok W r1 hx
        have e := r2.intsInv hl
        subst e
        refine wC_of (cr_max hc) ⟨a, i :: l, rfl, .inl (.inl hq), Nat.succ_pos _, fun m h1 h2 => ?_⟩
        obtain ⟨s1, s2⟩ := maxL_spec i l
        have e2 : m = maxL (i :: l) := Int.le_antisymm (s2 m h1) (h2 _ s1)
        rw [e2]
        exact c.here W (rel_int _)
      · cases h
    · cases h
  · cases h
theorem sc_min (hc : X.calm = true) : SndC X (.builtin "min") bMin := by
  intro F ρ st xs ws v st' H Q W r h c
  unfold bMin at h
  split at h
  · cases h
    obtain ⟨w, u, rfl, r1, r2⟩ := two_inv r
    cases int_ok r1; cases int_ok r2
    exact wC_of (call_min2 hc) ⟨_, _, rfl, c.here W (rel_int _)⟩
  · cases h
    obtain ⟨w, u, z, rfl, r1, r2, r3⟩ := three_inv r
    cases int_ok r1; cases int_ok r2; cases int_ok r3
    exact wC_of (call_min3 hc) ⟨_, _, _, rfl, c.here W (rel_int _)⟩
  · split at h
    · rename_i xs hx
      split at h
      · rename_i i l hl
        cases h
        obtain ⟨w, rfl, r1⟩ := one_inv r
        obtain ⟨a, vs, rfl, hq, r2⟩ := lst_ok W r1 hx
        have e := r2.intsInv hl
        subst e
        refine wC_of (cr_min hc) ⟨a, i :: l, rfl, .inl (.inl hq), Nat.succ_pos _, fun m h1 h2 => ?_⟩
        obtain ⟨s1, s2⟩ := minL_spec i l
        have e2 : m = minL (i :: l) := Int.le_antisymm (h2 _ s1) (s2 m h1)
        rw [e2]
        exact c.here W (rel_int _)
      · cases h
    · cases h
  · cases h
theorem sc_tuple : SndC X (.type "tuple") bTuple := by
  intro F ρ st xs ws v st' H Q W r h c
  unfold bTuple at h
  split at h
  · cases h
    obtain ⟨w, rfl, r1⟩ := one_inv r
    obtain ⟨p, vs, rfl, q, r2⟩ := tup_ok W r1
    exact wC_of call_tuple_of ⟨p, vs, rfl, .inr ⟨q, c.here W r1⟩⟩
  · split at h
    · rename_i xs hx
      obtain ⟨w, rfl, r1⟩ := one_inv r
      obtain ⟨a, vs, rfl, hq, r2⟩ := lst_ok W r1 hx
      exact wC_of call_tuple_of ⟨a, vs, rfl, .inl ⟨.inl (.inl hq), (mkT_ok W r2 h c).2⟩⟩
    · cases h
  · cases h
theorem sc_list {m : Bool} : SndC X (.type "list") (bList m) := by
  intro F ρ st xs ws v st' H Q W r h c
  unfold bList at h
  split at h
  · split at h
    · rename_i xs hx
      obtain ⟨w, rfl, r1⟩ := one_inv r
      obtain ⟨a, vs, rfl, hq, r2⟩ := seq_ok W r1 hx
      exact wC_of call_list_of ⟨a, vs, rfl, hq, (mkL_ok W r2 h c).2⟩
    · cases h
  · cases h
theorem sortI_uniq {ns ms : List Int} (hp : ms.Perm ns) (hs : ms.Pairwise (· ≤ ·)) : ms = sortI ns := by
  refine List.Perm.eq_of_pairwise (le := fun a b : Int => a ≤ b) (fun a b _ _ h1 h2 => Int.le_antisymm h1 h2) hs ?_ (hp.trans (List.mergeSort_perm ns _).symm)
  have := List.pairwise_mergeSort (le := fun a b : Int => decide (a ≤ b)) (fun a b c h1 h2 => by simp at h1 h2 ⊢; omega) (fun a b => by simp; omega) ns
  unfold sortI
  refine this.imp fun h => by simpa using h
theorem sc_sorted {m : Bool} : SndC X (.builtin "sorted") (bSorted m) := by
  intro F ρ st xs ws v st' H Q W r h c
  unfold bSorted at h
  split at h
  · split at h
    · rename_i xs hx
      split at h
      · rename_i ns hn
        split at h
        · rename_i hz
          obtain ⟨w, rfl, r1⟩ := one_inv r
          obtain ⟨a, vs, rfl, hq, r2⟩ := lst_ok W r1 hx
          have e := r2.intsInv hn
          subst e
          refine wC_of cr_sorted ⟨a, ns, rfl, .inl (.inl hq), hz, fun ms p h1 h2 hp => ?_⟩
          rw [sortI_uniq h1 h2]
          exact (mkL_ok W (RelPs.ints _) h c).2 p hp
        · cases h
      · split at h
        · rename_i ks hk
          split at h
          · rename_i ho
            obtain ⟨h64, d, hd, hb⟩ := okTs_iff.mp ho
            obtain ⟨w, rfl, r1⟩ := one_inv r
            obtain ⟨a, vs, rfl, hq, r2⟩ := lst_ok W r1 hx
            obtain ⟨prs, rfl, rfl, hp⟩ := rel_tups hk r2
            have hT : ∀ p ∈ prs, TupI X.K H (V.ref p.1) p.2 := fun p z => ⟨p.1, rfl, W.sub.sqT (hp p z)⟩
            refine wC_of (cr_sortT (d := d) (B := bTup) hd) ⟨a, _, rfl, .inl (.inl hq), by rw [List.length_map] at h64 ⊢; exact h64, fun x z => ?_, fun ys p pm pw hn => ?_⟩
            · obtain ⟨q, hq2, rfl⟩ := List.mem_map.mp z
              exact ⟨q.2, hT q hq2, hb _ (List.mem_map.mpr ⟨q, hq2, rfl⟩)⟩
            · obtain ⟨prs', pm', rfl⟩ := perm_map_inv pm
              have hp' : ∀ p ∈ prs', SqT X.K F p.1 (p.2.map V.int) := fun p z => hp p (pm'.mem_iff.mp z)
              have hs : (prs'.map (·.2)).Pairwise fun a b => lexLe a b = true := by
                rw [List.pairwise_map] at pw ⊢
                refine List.Pairwise.imp_of_mem (fun {u v} hu hv huv => ?_) pw
                obtain ⟨l1, b1⟩ := hb _ (List.mem_map.mpr ⟨u, pm'.mem_iff.mp hu, rfl⟩)
                obtain ⟨l2, b2⟩ := hb _ (List.mem_map.mpr ⟨v, pm'.mem_iff.mp hv, rfl⟩)
                exact lexLe_code (l1.trans l2.symm) b1 b2 (huv _ _ (hT u (pm'.mem_iff.mp hu)) (hT v (pm'.mem_iff.mp hv)))
              have e := sortT_uniq (pm'.map (·.2)) hs
              rw [← e, List.map_map] at h
              exact (mkL_ok W (tups_rel hp') h c).2 p hn
          · cases h
        · cases h
    · cases h
  · cases h

/-- sorted(set(e)), tuples of ints -/
theorem snd_sortedSet {m : Bool} {p p2 pos pos2 : Pos} {e : Expr} {A : DE} (hc : X.calm = true) (hu : X.A.units + 65 < cLine) (hgx : Gl X "sorted") (hmx : X.mg "sorted" = none) (hgy : Gl X "set") (hmy : X.mg "set" = none) (ha : SndA X [e] (aCons A aNil))
    (hs : starEach [e] X.env = (false, eval e X.env) :: starEach [] X.env) : SndE X (.Call (.Name "sorted" p) [.Call (.Name "set" p2) [e] [] pos2] [] pos) (dApp (bSortedSet m) (aCons A aNil)) := by
  intro F ρ env st v st' σ H Q W E h c
  obtain ⟨xs, st1, h1, h⟩ := mb_eq h
  refine wE_of (pe_callB (id := "sorted") cr_w hgx hmx (by decide +kernel) (pa_cons pe_w pa_nil rfl) (by decide +kernel) (by decide +kernel) rfl rfl) ?_
  refine wE_of (pe_callTy (T := "set") cr_w hgy hmy (by decide +kernel) pa_w (by decide +kernel) (by decide +kernel) hs rfl) ?_
  refine ha F ρ env st xs st1 σ H _ W E h1 fun F1 ρ1 w1 H1 p1 r1 => ?_
  unfold bSortedSet at h
  split at h
  · split at h
    · rename_i xs hx
      split at h
      · rename_i ks hk
        split at h
        · rename_i ho
          obtain ⟨h64, d, hd, hb⟩ := okTs_iff.mp ho
          obtain ⟨w, rfl, r2⟩ := one_inv r1
          have W1 := p1.wld
          obtain ⟨a, vs, rfl, hq, r3⟩ := lst_ok W1 r2 hx
          obtain ⟨prs, rfl, rfl, hp⟩ := rel_tups hk r3
          refine wC_of (cr_setOfT hc (by omega)) ⟨a, prs, rfl, .inl (.inl hq), fun q z => W1.sub.sqT (hp q z), by rw [List.length_map] at h64; exact h64, fun b L hbn hL hall => ?_⟩
          have P2 := W1.new (o := SetTO X.prog X.w b L) hbn
          refine wC_of (cr_sortedT hc) ⟨b, L, d, bTup, rfl, upd_same, fun q z => P2.wld.sub.sqT (P2.ex.sqT (hp q (hL q z))), hd, fun q z => hb _ (List.mem_map.mpr ⟨q, hL q z, rfl⟩), fun L' p pm nd h64' pw hn => ?_⟩
          have hm : ∀ q ∈ L', q ∈ prs := fun q z => hL q (pm.mem_iff.mp z)
          have hs : (L'.map (·.2)).Pairwise fun a b => lexLe a b = true := by
            rw [List.pairwise_map]
            refine List.Pairwise.imp_of_mem (fun {u v} hu hv huv => ?_) pw
            obtain ⟨l1, b1⟩ := hb _ (List.mem_map.mpr ⟨u, hm u hu, rfl⟩)
            obtain ⟨l2, b2⟩ := hb _ (List.mem_map.mpr ⟨v, hm v hv, rfl⟩)
            exact lexLe_code (l1.trans l2.symm) b1 b2 huv
          have e := sortT_uniq (ks := uniqT (prs.map (·.2))) (perm_uniqT nd fun x => by
            constructor
            · intro z
              obtain ⟨q, hq2, rfl⟩ := List.mem_map.mp z
              exact List.mem_map.mpr ⟨q, hm q hq2, rfl⟩
            · intro z
              obtain ⟨q, hq2, rfl⟩ := List.mem_map.mp z
              exact (pm.map (·.2)).mem_iff.mpr (hall q hq2)) hs
          rw [← e, List.map_map] at h
          exact (mkL_ok P2.wld (tups_rel fun q z => P2.ex.sqT (hp q (hm q z))) h (Ct.of P2 (Ct.of p1 c))).2 p hn
        · cases h
      · cases h
    · cases h
  · cases h

/-! isinstance -/
theorem sq_ty {K : PySem.W.Frag} {H : Hp} {a : Addr} {vs : List V} (h : SqT K H a vs) : TyX K H (.ref a) (.type "tuple") := by
  rcases h with (h | ⟨o, h⟩) | ⟨o, its, n, h, hc, _⟩
  · exact .base (.tup h)
  · exact .fTuple h
  · exact .kTuple h hc
theorem isTy_ok {F : Hp} {ρ : Nat → Addr} {st : Sto} {H : Hp} {x : PV} {w : V} {t : BTy} {b : Bool} (W : Wld X.K F ρ st H) (r : RelP X.K F ρ st.nxt x w) (h : isTy t st x = some b) :
    ∃ T : String, TyX X.K H w (.type T) ∧ kitB T t.nameS = some b := by
  unfold isTy at h
  split at h
  · cases h
    rw [non_ok r]
    exact ⟨_, .base .non, by cases t <;> decide +kernel⟩
  · cases h
    rw [bl_ok r]
    exact ⟨_, .base (.bl _), by cases t <;> decide +kernel⟩
  · cases h
    rw [int_ok r]
    exact ⟨_, .base (.int _), by cases t <;> decide +kernel⟩
  · cases h
    rw [str_ok r]
    exact ⟨_, .base (.str _), by cases t <;> decide +kernel⟩
  · cases h
    obtain ⟨p, vs, rfl, q, r2⟩ := tup_ok W r
    exact ⟨_, sq_ty q, by cases t <;> decide +kernel⟩
  · cases h
    rw [RelP] at r
    obtain ⟨p, vs, rfl, q, r2⟩ := r
    exact ⟨_, .base (.lst (W.sub _ _ q)), by cases t <;> decide +kernel⟩
  · cases h
  · cases h
  · split at h
    · rename_i l _ _ hl
      cases h
      rw [RelP] at r
      obtain ⟨_, rfl⟩ := r
      obtain ⟨_, vs, e, _⟩ := W.cell l _ hl
      exact ⟨_, .base (.lst e), by cases t <;> decide +kernel⟩
    · cases h
theorem bty_boot (t : BTy) : bootBuiltins t.name = some (.type t.nameS) := by cases t <;> decide +kernel
theorem bty_name (t : BTy) : t.name ≠ "__name__" := by cases t <;> decide +kernel
theorem bty_dbg (t : BTy) : (t.name == ("__debug__" : Str)) = false := by cases t <;> decide +kernel
theorem snd_isi {x : Str} {p p2 : Pos} {t : BTy} (hx : x = "isinstance") (hg : Gl X x) (hm : X.mg x = none) (hg2 : Gl X t.name) (hm2 : X.mg t.name = none) (ha : SndE X a A)
    (he : starEach [a, .Name t.name p2] X.env = (false, eval a X.env) :: starEach [.Name t.name p2] X.env) : SndE X (.Call (.Name x p) [a, .Name t.name p2] [] pos) (dUn (bIsi t) A) := by
  subst hx
  intro F ρ env st v st' σ H Q W E h c
  obtain ⟨z, st1, h1, h⟩ := mb_eq h
  unfold bIsi at h
  cases hb : isTy t st1 z with
  | none => rw [hb] at h; cases h
  | some b =>
    rw [hb] at h; cases h
    have ht : PE X (.Name t.name p2) (tC (.ty t.nameS)) := pe_bltn hg2 hm2 (bty_boot t) rfl (bty_name t) (bty_dbg t)
    refine wE_of (pe_callB call_isi hg hm (by decide +kernel) (pa_cons pe_w (pa_cons ht pa_nil rfl) he) (by decide +kernel) (by decide +kernel) he rfl) ?_
    refine ha F ρ env st z _ σ H _ W E h1 fun F1 ρ1 w1 H1 p1 r1 => ?_
    obtain ⟨T, ty, k⟩ := isTy_ok p1.wld r1 hb
    exact ⟨w1, _, _, _, b, rfl, .ty _, ty, kit_ty k, (Ct.of p1 c).here p1.wld (rel_bl _)⟩

/-! methods of lists -/
theorem snd_met0 {id : String} {name : Str} {apos : Pos} {f : Nat → FSem} (slot : Slot "list" name id) (hty : typeOf (.builtin id) = pure (.type "method_descriptor")) (hf : SndM X id f)
    (ha : SndE X a A) (hbase : attributeBase a name X.env (eval a X.env) = eval a X.env) (hline : (apos.endLine == pos.line) = true) : SndE X (.Call (.Attribute a name apos) [] [] pos) (dMetL f A aNil) := by
  intro F ρ env st v st' σ H Q W E h c
  obtain ⟨x, st1, h1, h⟩ := mb_eq h
  obtain ⟨l, st2, h2, h⟩ := mb_eq h
  obtain ⟨rfl, rfl, xs, hl⟩ := asL_eq h2
  have h : f l [] st1 = some (v, st') := h
  refine wE_of (pe_bm0 PySem.F.plainAttrs_list slot hty mr_w pe_w hbase hline) ?_
  refine ha F ρ env st _ st1 σ H _ W E h1 fun F1 ρ1 w1 H1 p1 r1 => ?_
  rw [RelP] at r1
  obtain ⟨_, rfl⟩ := r1
  obtain ⟨_, vs, e, _⟩ := p1.wld.cell l _ hl
  exact ⟨.inl ⟨rfl, vs, .inl (.inl e)⟩, hf F1 ρ1 st1 l [] [] v st' H1 Q p1.wld .nil h (Ct.of p1 c)⟩
theorem snd_met {id : String} {name : Str} {apos : Pos} {es : List Expr} {D : DA} {f : Nat → FSem} (slot : Slot "list" name id) (hty : typeOf (.builtin id) = pure (.type "method_descriptor")) (hf : SndM X id f)
    (ha : SndE X a A) (hes : SndA X (e :: es) D) (hbase : attributeBase a name X.env (eval a X.env) = eval a X.env)
    (hfew : ((backTo pos (starEach (e :: es) X.env)).all (fun x => !x.1) && (backToKw pos (keywordEach [] X.env)).all (fun x => x.1.isSome) && decide ((e :: es).length + ([] : List Keyword).length + (if ([] : List Keyword).isEmpty then 0 else 1) < 30)) = true)
    (hline : (apos.endLine == pos.line) = true) (hs : starEach (e :: es) X.env = (false, eval e X.env) :: starEach es X.env) (hplain : (backTo pos (starEach es X.env)).any (·.1) = false) :
    SndE X (.Call (.Attribute a name apos) (e :: es) [] pos) (dMetL f A D) := by
  intro F ρ env st v st' σ H Q W E h c
  obtain ⟨x, st1, h1, h⟩ := mb_eq h
  obtain ⟨l, st2, h2, h⟩ := mb_eq h
  obtain ⟨rfl, rfl, xs, hl⟩ := asL_eq h2
  obtain ⟨ys, st3, h3, h⟩ := mb_eq h
  refine wE_of (pe_bm PySem.F.plainAttrs_list slot hty mr_w pe_w pa_w hbase hfew hline hs hplain) ?_
  refine ha F ρ env st _ st1 σ H _ W E h1 fun F1 ρ1 w1 H1 p1 r1 => ?_
  have r1' := r1
  rw [RelP] at r1
  obtain ⟨_, rfl⟩ := r1
  obtain ⟨_, vs, e, _⟩ := p1.wld.cell l _ hl
  refine ⟨.inl ⟨rfl, vs, .inl (.inl e)⟩, hes F1 ρ1 env st1 ys st3 σ H1 _ p1.wld (E.step p1) h3 fun F2 ρ2 ws H2 p2 r2 => ?_⟩
  have r3 := r1'.step p2
  rw [RelP] at r3
  rw [r3.2]
  exact hf F2 ρ2 st3 l ys ws v st' H2 Q p2.wld r2 h (Ct.of (p1.trans p2) c)
theorem sm_append : SndM X "list.append" mAppend := by
  intro F ρ st l xs ws v st' H Q W r h c
  unfold mAppend at h
  split at h
  · rename_i y
    split at h
    · rename_i ys hl
      split at h
      · rename_i hz
        cases h
        rw [Bool.and_eq_true, decide_eq_true_eq] at hz
        obtain ⟨w, rfl, r1⟩ := one_inv r
        obtain ⟨_, vs, e, rc⟩ := W.cell l _ hl
        refine wM_of (fun pins s σ H x xs v us Q I r1 r2 h => mt_append pins s σ H x xs v us Q I r1 r2 h) ⟨_, vs, w, rfl, rfl, e, by rw [← rc.length]; exact hz.1, ?_⟩
        refine c _ _ _ _ (W.set hl (c := .lst (ys ++ [y])) ⟨_, rfl, rc.append (.cons (r1.free0 hz.2) .nil)⟩) rel_non
      · cases h
    · cases h
  · cases h
theorem sm_pop : SndM X "list.pop" mPop := by
  intro F ρ st l xs ws v st' H Q W r h c
  unfold mPop at h
  split at h
  · split at h
    · rename_i ys hl
      split at h
      · rename_i y hy
        cases h
        cases r.inv0
        obtain ⟨_, vs, e, rc⟩ := W.cell l _ hl
        obtain ⟨w, hw, rw'⟩ := rc.get hy
        refine wM_of (fun pins s σ H x xs v us Q I r1 r2 h => mt_pop pins s σ H x xs v us Q I r1 r2 h) ⟨_, vs, w, rfl, rfl, e, by rw [← rc.length]; exact hw, ?_⟩
        exact c _ _ _ _ (W.set hl (c := .lst ys.dropLast) ⟨_, rfl, rc.dropLast⟩) rw'.any
      · cases h
    · cases h
  · cases h
theorem sm_reverse : SndM X "list.reverse" mReverse := by
  intro F ρ st l xs ws v st' H Q W r h c
  unfold mReverse at h
  split at h
  · split at h
    · rename_i ys hl
      cases h
      cases r.inv0
      obtain ⟨_, vs, e, rc⟩ := W.cell l _ hl
      refine wM_of (fun pins s σ H x xs v us Q I r1 r2 h => mt_reverse pins s σ H x xs v us Q I r1 r2 h) ⟨_, vs, rfl, rfl, e, ?_⟩
      exact c _ _ _ _ (W.set hl (c := .lst ys.reverse) ⟨_, rfl, rc.reverse⟩) rel_non
    · cases h
  · cases h

/-! ### calls of the text's own defs -/
/-- the promise: what D computes -/
def spOf (K : PySem.W.Frag) (np : Nat) (D : FSem) : Sp := fun vs H Q _ => vs.length = np ∧ ∃ F ρ st args v st', Wld K F ρ st H ∧ RelPs K F ρ st.nxt args vs ∧ D args st = some (v, st') ∧ Ct K F ρ st H v st' Q
theorem settle_ok {F F1 : Hp} {ρ ρ1 : Nat → Addr} {st st1 st2 : Sto} {H H1 : Hp} {v v' : PV} {w : V} {K : PySem.W.Frag} (p : Pst K F ρ st H F1 ρ1 st1 H1) (r : RelP K F1 ρ1 st1.nxt v w) (h : settle st.nxt v st1 = some (v', st2)) :
    ∃ F2, Pst K F ρ st H F2 ρ1 st2 H1 ∧ RelP K F2 ρ1 st2.nxt v' w := by
  unfold settle at h
  cases e : v.res st.nxt st1.cs with
  | none => rw [e] at h; cases h
  | some u =>
    rw [e] at h; cases h
    obtain ⟨F2, s, p2, f, _⟩ := p.drop rfl
    exact ⟨F2, p2, r.res p.wld s f e⟩
theorem snd_call {x : Str} {p : Pos} {es : List Expr} {D : DA} {f : Addr} {fd : FuncData} {ps : List Str} {k np : Nat} {S : FSem} {adopt : Bool} (G : FnOk X.prog X.w X.K X.mg X.base CX0 k f fd ps (spOf X.K np S)) (hr : Room k X.A) (hg : Gl X x) (hm : X.mg x = some (.ref f)) (hk : PySem.W.keepIn X.K (.ref f) = true) (hb : Binds X.K fd ps [])
    (hnp : (e :: es).length = np) (ha : SndA X (e :: es) D) (hlen : ∀ env st xs st', D env st = some (xs, st') → xs.length = np) (hdb : (x == ("__debug__" : Str)) = false) (he : starEach (e :: es) X.env = (false, eval e X.env) :: starEach es X.env) (hpl : (backTo pos (starEach es X.env)).any (·.1) = false) :
    SndE X (.Call (.Name x p) (e :: es) [] pos) (dCall S adopt D) := by
  intro F ρ env st v st' σ H Q W E h c
  obtain ⟨xs, st1, h1, h⟩ := mb_eq h
  obtain ⟨u, st2, h2, h⟩ := mb_eq h
  refine wE_of (pe_call G hr hg hm hk hb .nil pass0 pa_w hdb he hpl) ?_
  refine ha F ρ env st xs st1 σ H _ W E h1 fun F1 ρ1 ws H1 p1 r1 => ?_
  rw [List.append_nil]
  refine ⟨by rw [← r1.length]; exact hlen _ _ _ _ h1, F1, ρ1, st1, xs, u, st2, p1.wld, r1, h2, fun F2 ρ2 w H2 p2 r2 => ?_⟩
  split at h
  · cases h
    exact c F2 ρ2 w H2 (p1.trans p2) r2
  · obtain ⟨F3, p3, r3⟩ := settle_ok p2 r2 h
    exact c F3 ρ2 w H2 (p1.trans p3) r3
end
end DL

/-! DL4: what is walked, targets, comprehensions, statements, loops. -/
namespace DL
open PySem PySem.Spec PyProof.Rows L2

section
variable {X : Cx}
/-- an iterator that gives the items -/
def Drv (K : PySem.W.Frag) (F : Hp) (ρ : Nat → Addr) (n : Nat) (its : Its) (J : It) : Prop :=
  ∀ F2 ρ2 st2 H2 (i : Nat), Sub F F2 → (∀ l, l < n → ρ2 l = ρ l) → n ≤ st2.nxt → Wld K F2 ρ2 st2 H2 → its.ok st2 →
    (∀ x, its.items[i]? = some x → J.go i H2 ∧ ∀ w H3, J.yld i H2 w H3 → ∃ F3, Pst K F2 ρ2 st2 H2 F3 ρ2 st2 H3 ∧ RelP K F3 ρ2 st2.nxt x w) ∧ (its.items.length ≤ i → J.stop i H2)
def SndI (X : Cx) (tg it : Expr) (D : DI) : Prop := ∀ F ρ env st its st' σ H R, Wld X.K F ρ st H → ERel X.K F ρ st.nxt env σ → D env st = some (its, st') →
  (∀ F' ρ' J H', Pst X.K F ρ st H F' ρ' st' H' → Drv X.K F' ρ' st'.nxt its J → R J H') → wI X tg it σ H R
/-- σ' is σ but for the slots js -/
def SameBut (js : List Nat) (σ σ' : L2.St) : Prop := σ'.length = σ.length ∧ ∀ j, j ∉ js → σ'[j]? = σ[j]?
theorem SameBut.refl {js : List Nat} {σ : L2.St} : SameBut js σ σ := ⟨rfl, fun _ _ => rfl⟩
theorem SameBut.set {i : Nat} {σ : L2.St} {v : Option V} : SameBut [i] σ (σ.set i v) := ⟨List.length_set, fun j h => List.getElem?_set_ne (fun e => h (by simp [e]))⟩
theorem SameBut.trans {js ks : List Nat} {σ σ1 σ2 : L2.St} (a : SameBut js σ σ1) (b : SameBut ks σ1 σ2) : SameBut (js ++ ks) σ σ2 :=
  ⟨b.1.trans a.1, fun j h => by rw [List.mem_append, not_or] at h; rw [b.2 j h.2, a.2 j h.1]⟩
theorem wipe_get : ∀ (us : List Nat) (τ : L2.St) (j : Nat), (L2.wipe τ us)[j]? = if j ∈ us ∧ j < τ.length then some none else τ[j]?
  | [], τ, j => by simp [L2.wipe]
  | u :: us, τ, j => by
    rw [L2.wipe]
    by_cases q : u = j
    · subst q
      by_cases hl : u < τ.length
      · rw [List.getElem?_set_self (by rw [L2.wipe_length]; exact hl), if_pos ⟨List.mem_cons_self, hl⟩]
      · rw [List.getElem?_eq_none (by rw [List.length_set, L2.wipe_length]; omega), if_neg (fun z => hl z.2), List.getElem?_eq_none (by omega)]
    · rw [List.getElem?_set_ne q, wipe_get us τ j]
      have : (j ∈ u :: us) ↔ j ∈ us := by simp [Ne.symm q]
      simp only [this]
theorem wipe_wipe (σ : L2.St) (vs : List Nat) : L2.wipe (L2.wipe σ vs) vs = L2.wipe σ vs := by
  apply List.ext_getElem?
  intro j
  rw [wipe_get, wipe_get, L2.wipe_length]
  split <;> rfl
theorem SameBut.wipe {js vs : List Nat} {σ σ' : L2.St} (h : SameBut js σ σ') (hs : ∀ j ∈ js, j ∈ vs) : L2.wipe σ' vs = L2.wipe σ vs := by
  apply List.ext_getElem?
  intro j
  rw [wipe_get, wipe_get, h.1]
  split
  · rfl
  · rename_i q
    by_cases z : j ∈ js
    · have z2 := hs j z
      have : ¬ j < σ.length := fun w => q ⟨z2, w⟩
      rw [List.getElem?_eq_none (l := σ') (by rw [h.1]; omega), List.getElem?_eq_none (by omega)]
    · exact h.2 j z
def SndG (X : Cx) (tg : Expr) (G : DG) (js : List Nat) : Prop := ∀ F ρ env st v w e' st' σ H Q, Wld X.K F ρ st H → ERel X.K F ρ st.nxt env σ → RelP X.K F ρ st.nxt v w → G v env st = some (e', st') →
  (∀ F' ρ' σ' H', Pst X.K F ρ st H F' ρ' st' H' → ERel X.K F' ρ' st'.nxt e' σ' → SameBut js σ σ' → Q σ' H') → wG X tg w σ H Q
def SndGs (X : Cx) (ts : List Expr) (G : List PV → Env → M Env) (js : List Nat) : Prop := ∀ F ρ env st vs ws e' st' σ H Q, Wld X.K F ρ st H → ERel X.K F ρ st.nxt env σ → RelPs X.K F ρ st.nxt vs ws → G vs env st = some (e', st') →
  (∀ F' ρ' σ' H', Pst X.K F ρ st H F' ρ' st' H' → ERel X.K F' ρ' st'.nxt e' σ' → SameBut js σ σ' → Q σ' H') → wGs X ts ws σ H Q
variable {pos : Pos} {a b c e tg : Expr} {A B C : DE}

/-! ### what is walked -/
theorem drv_val {K : PySem.W.Frag} {F : Hp} {ρ : Nat → Addr} {n : Nat} {xs : List PV} {p : Addr} {vs : List V} (h : F p = some (.lst vs)) (r : RelPs K F ρ n xs vs) : Drv K F ρ n ⟨xs, none⟩ (Itl K p) := by
  intro F2 ρ2 st2 H2 i s hr hn W _
  have hH : SqL K H2 p vs := .inl (.inl (W.sub _ _ (s _ _ h)))
  refine ⟨fun x hx => ?_, fun hl => ⟨vs, hH, by rw [← r.length]; exact hl⟩⟩
  obtain ⟨w, hw, rw'⟩ := r.get hx
  refine ⟨⟨vs, w, hH, hw⟩, fun u H3 hy => ?_⟩
  obtain ⟨rfl, hy⟩ := hy
  have e := hy vs hH
  rw [hw] at e; cases e
  exact ⟨F2, Pst.refl W, rw'.mono s hr hn⟩
theorem drv_tup {K : PySem.W.Frag} {F : Hp} {ρ : Nat → Addr} {n : Nat} {xs : List PV} {p : Addr} {vs : List V} (h : SqT K F p vs) (r : RelPs K F ρ n xs vs) : Drv K F ρ n ⟨xs, none⟩ (Itt K p) := by
  intro F2 ρ2 st2 H2 i s hr hn W _
  have hH : SqT K H2 p vs := W.sub.sqT (s.sqT h)
  refine ⟨fun x hx => ?_, fun hl => ⟨vs, hH, by rw [← r.length]; exact hl⟩⟩
  obtain ⟨w, hw, rw'⟩ := r.get hx
  refine ⟨⟨vs, w, hH, hw⟩, fun u H3 hy => ?_⟩
  obtain ⟨rfl, hy⟩ := hy
  have e := hy vs hH
  rw [hw] at e; cases e
  exact ⟨F2, Pst.refl W, rw'.mono s hr hn⟩
theorem drv_loc {K : PySem.W.Frag} {F : Hp} {ρ : Nat → Addr} {n l : Nat} {xs : List PV} (hl : l < n) : Drv K F ρ n ⟨xs, some (l, .lst xs)⟩ (Itl K (ρ l)) := by
  intro F2 ρ2 st2 H2 i s hr hn W ok
  have ok : st2.cs l = some (.lst xs) := ok
  obtain ⟨_, vs, e, r⟩ := W.cell l _ ok
  rw [hr l hl] at e
  have hH : SqL K H2 (ρ l) vs := .inl (.inl e)
  refine ⟨fun x hx => ?_, fun hl => ⟨vs, hH, by rw [← r.length]; exact hl⟩⟩
  obtain ⟨w, hw, rw'⟩ := r.get hx
  refine ⟨⟨vs, w, hH, hw⟩, fun u H3 hy => ?_⟩
  obtain ⟨rfl, hy⟩ := hy
  have e := hy vs hH
  rw [hw] at e; cases e
  exact ⟨F2, Pst.refl W, rw'.any⟩
theorem drv_rng {K : PySem.W.Frag} {F : Hp} {ρ : Nat → Addr} {n : Nat} {lo hi : Int} : Drv K F ρ n ⟨rng lo hi, none⟩ (Itr lo (hi - lo).toNat) := by
  intro F2 ρ2 st2 H2 i s hr hn W _
  refine ⟨fun x hx => ?_, fun hl => ?_⟩
  · have hx : (rng lo hi)[i]? = some x := hx
    unfold rng at hx
    rw [List.getElem?_map] at hx
    by_cases hi' : i < (hi - lo).toNat
    · rw [List.getElem?_range hi'] at hx
      cases hx
      refine ⟨hi', fun u H3 hy => ?_⟩
      obtain ⟨rfl, rfl⟩ := hy
      exact ⟨F2, Pst.refl W, rel_int _⟩
    · rw [List.getElem?_eq_none (by rw [List.length_range]; omega)] at hx
      cases hx
  · have hl : (rng lo hi).length ≤ i := hl
    unfold rng at hl
    rw [List.length_map, List.length_range] at hl
    exact hl
theorem drv_rev {K : PySem.W.Frag} {F : Hp} {ρ : Nat → Addr} {n : Nat} {xs : List PV} {p : Addr} {vs : List V} (h : F p = some (.lst vs)) (r : RelPs K F ρ n xs vs) : Drv K F ρ n ⟨xs.reverse, none⟩ (Itv K p vs.length) := by
  intro F2 ρ2 st2 H2 i s hr hn W _
  have hH : SqL K H2 p vs := .inl (.inl (W.sub _ _ (s _ _ h)))
  have hl := r.length
  refine ⟨fun x hx => ?_, fun hz => ?_⟩
  · have hx : xs.reverse[i]? = some x := hx
    have hi : i < xs.length := by
      by_cases q : i < xs.length
      · exact q
      · rw [List.getElem?_eq_none (by rw [List.length_reverse]; omega)] at hx; cases hx
    rw [List.getElem?_reverse hi] at hx
    obtain ⟨w, hw, rw'⟩ := r.get hx
    rw [hl] at hw
    refine ⟨⟨by omega, vs, w, hH, hw⟩, fun u H3 hy => ?_⟩
    obtain ⟨rfl, hy⟩ := hy
    have e := hy vs hH
    rw [hw] at e; cases e
    exact ⟨F2, Pst.refl W, rw'.mono s hr hn⟩
  · have hz : xs.reverse.length ≤ i := hz
    rw [List.length_reverse] at hz
    show vs.length ≤ i
    omega
theorem si_rev {p pos : Pos} (hg : Gl X "reversed") (hm : X.mg "reversed" = none) (hs : starEach [a] X.env = (false, eval a X.env) :: starEach [] X.env) (ha : SndE X a A) : SndI X tg (.Call (.Name "reversed" p) [a] [] pos) (iRev A) := by
  intro F ρ env st its st' σ H R W E h c
  obtain ⟨x, st1, h1, h⟩ := mb_eq h
  unfold itsRev at h
  split at h
  · cases h
    refine wI_of (RT.pi_revA hg hm pe_w hs) (ha F ρ env st _ _ σ H _ W E h1 fun F1 ρ1 w1 H1 p1 r1 => ?_)
    rw [RelP] at r1
    obtain ⟨p, vs, rfl, q, r⟩ := r1
    exact ⟨p, vs, rfl, .inl ⟨.inl (.inl (p1.wld.sub _ _ q)), c F1 ρ1 _ H1 p1 (drv_rev q r)⟩⟩
  · cases h
theorem si_seq (ha : SndE X a A) : SndI X tg a (iSeq A) := by
  intro F ρ env st its st' σ H R W E h c
  obtain ⟨x, st1, h1, h⟩ := mb_eq h
  unfold itsOf at h
  split at h
  · cases h
    refine wI_of (pi_list pe_w) (ha F ρ env st _ _ σ H _ W E h1 fun F1 ρ1 w1 H1 p1 r1 => ?_)
    rw [RelP] at r1
    obtain ⟨p, vs, rfl, q, r⟩ := r1
    exact ⟨p, rfl, ⟨vs, .inl (.inl (p1.wld.sub _ _ q))⟩, c F1 ρ1 _ H1 p1 (drv_val q r)⟩
  · cases h
    refine wI_of (pi_tup pe_w) (ha F ρ env st _ _ σ H _ W E h1 fun F1 ρ1 w1 H1 p1 r1 => ?_)
    rw [RelP] at r1
    obtain ⟨p, vs, rfl, q, r⟩ := r1
    exact ⟨p, rfl, ⟨vs, p1.wld.sub.sqT q⟩, c F1 ρ1 _ H1 p1 (drv_tup q r)⟩
  · split at h
    · rename_i l _ xs hl
      cases h
      refine wI_of (pi_list pe_w) (ha F ρ env st _ _ σ H _ W E h1 fun F1 ρ1 w1 H1 p1 r1 => ?_)
      rw [RelP] at r1
      obtain ⟨q, rfl⟩ := r1
      obtain ⟨_, vs, e, r⟩ := p1.wld.cell l _ hl
      exact ⟨_, rfl, ⟨vs, .inl (.inl e)⟩, c F1 ρ1 _ H1 p1 (drv_loc q)⟩
    · cases h
  · cases h
theorem si_rng1 {p : Pos} (hg : Gl X "range") (hm : X.mg "range" = none) (ha : SndE X a A) (hs : starEach [a] X.env = [(false, eval a X.env)]) : SndI X tg (.Call (.Name "range" p) [a] [] pos) (iRng1 A) := by
  intro F ρ env st its st' σ H R W E h c
  obtain ⟨x, st1, h1, h⟩ := mb_eq h
  refine wI_of (pi_range1 hg hm (pa_cons pe_w pa_nil hs) hs) ?_
  refine ha F ρ env st x st1 σ H _ W E h1 fun F1 ρ1 w1 H1 p1 r1 => ?_
  obtain ⟨n, st2, h2, h⟩ := mb_eq h
  obtain ⟨rfl, rfl⟩ := asI_eq h2
  split at h
  · rename_i hn
    have hn := okRng_iff.mp hn
    cases h
    cases int_ok r1
    refine ⟨n, rfl, hn.1, hn.2, c F1 ρ1 _ H1 p1 ?_⟩
    have := drv_rng (K := X.K) (F := F1) (ρ := ρ1) (n := st'.nxt) (lo := 0) (hi := n)
    rw [Int.sub_zero] at this
    exact this
  · cases h
theorem si_rng2 {p : Pos} (hg : Gl X "range") (hm : X.mg "range" = none) (ha : SndE X a A) (hb : SndE X b B) (hs : starEach [a, b] X.env = [(false, eval a X.env), (false, eval b X.env)]) (hs2 : starEach [b] X.env = [(false, eval b X.env)]) : SndI X tg (.Call (.Name "range" p) [a, b] [] pos) (iRng2 A B) := by
  intro F ρ env st its st' σ H R W E h c
  obtain ⟨x, st1, h1, h⟩ := mb_eq h
  obtain ⟨y, st2, h2, h⟩ := mb_eq h
  refine wI_of (pi_range2 hg hm (pa_cons pe_w (pa_cons pe_w pa_nil hs2) (by rw [hs, hs2])) hs hs2) ?_
  refine ha F ρ env st x st1 σ H _ W E h1 fun F1 ρ1 w1 H1 p1 r1 => ?_
  refine hb F1 ρ1 env st1 y st2 σ H1 _ p1.wld (E.step p1) h2 fun F2 ρ2 w2 H2 p2 r2 => ?_
  obtain ⟨i, st3, h3, h⟩ := mb_eq h
  obtain ⟨rfl, rfl⟩ := asI_eq h3
  obtain ⟨j, st4, h4, h⟩ := mb_eq h
  obtain ⟨rfl, rfl⟩ := asI_eq h4
  split at h
  · rename_i hn
    rw [Bool.and_eq_true] at hn
    have h5 := okRng_iff.mp hn.1
    have h6 := okRng_iff.mp hn.2
    cases h
    cases int_ok r1
    cases int_ok r2
    exact ⟨_, _, rfl, ⟨h5.1, h5.2, h6.1, h6.2⟩, c F2 ρ2 _ H2 (p1.trans p2) drv_rng⟩
  · cases h

/-! ### targets -/
theorem sg_name {i : Nat} {x : Str} (hN : X.N.Nodup) (hi : X.N[i]? = some x) (hx : Loc X.env.scope x) (hf : X.fn x = true ∨ X.env.scope.names.lookup x = some .local) : SndG X (.Name x pos) (gName i) [i] := by
  intro F ρ env st v w e' st' σ H Q W E r h c
  cases h
  exact wG_of (pg_name hN hi hx hf) (c F ρ _ H (Pst.refl W) (E.set r i) .set)
theorem sgs_nil : SndGs X [] (gList []) [] := by
  intro F ρ env st vs ws e' st' σ H Q W E r h c
  cases vs with
  | nil =>
    cases h
    cases r.inv0
    exact wGs_of pgs_nil ⟨rfl, c F ρ _ H (Pst.refl W) E .refl⟩
  | cons _ _ => cases h
theorem sgs_cons {es : List Expr} {G : DG} {Gs : List DG} {js ks : List Nat} (h1 : SndG X e G js) (h2 : SndGs X es (gList Gs) ks) (hs : (assignEach (e :: es) X.env).map (·.2) = assign e X.env :: (assignEach es X.env).map (·.2)) : SndGs X (e :: es) (gList (G :: Gs)) (js ++ ks) := by
  intro F ρ env st vs ws e' st' σ H Q W E r h c
  cases vs with
  | nil => cases h
  | cons v vs =>
    obtain ⟨e1, s1, h3, h⟩ := mb_eq h
    obtain ⟨w, ws, rfl, r1, r2⟩ := r.inv
    refine wGs_of (pgs_cons pg_w pgs_w hs) ⟨w, ws, rfl, h1 F ρ env st v w e1 s1 σ H _ W E r1 h3 fun F1 ρ1 σ1 H1 p1 E1 b1 => ?_⟩
    exact h2 F1 ρ1 e1 s1 vs ws e' st' σ1 H1 Q p1.wld E1 (r2.step p1) h fun F2 ρ2 σ2 H2 p2 E2 b2 => c F2 ρ2 σ2 H2 (p1.trans p2) E2 (b1.trans b2)
theorem gList_len : ∀ {Gs : List DG} {vs : List PV} {env : Env} {st : Sto} {r : Env × Sto}, gList Gs vs env st = some r → Gs.length = vs.length
  | [], [], _, _, _, _ => rfl
  | [], _ :: _, _, _, _, h => by cases h
  | _ :: _, [], _, _, _, h => by cases h
  | G :: Gs, v :: vs, env, st, r, h => by
    obtain ⟨e1, s1, _, h⟩ := mb_eq (b := r.1) (st := r.2) h
    rw [List.length_cons, List.length_cons, gList_len h]
theorem sg_tup {es : List Expr} {Gs : List DG} {k n : Nat} {js : List Nat} (hc : X.calm = true) (h : SndGs X es (gList Gs) js) (hn : (assignEach es X.env).length = n) (hst : (assignEach es X.env).findIdx? (·.1) = none) (hl : Gs.length = n) : SndG X (.Tuple es k pos) (gTup Gs) js := by
  intro F ρ env st v w e' st' σ H Q W E r h0 c
  unfold gTup at h0
  split at h0
  · rename_i xs
    obtain ⟨p, vs, rfl, q, r2⟩ := tup_ok W r
    refine wG_of (pg_tup hc pgs_w hn hst) ⟨p, vs, rfl, q, ?_, ?_⟩
    · rw [← r2.length, ← gList_len h0]; exact hl
    · exact h F ρ env st xs vs e' st' σ H Q W E r2 h0 c
  · cases h0
theorem sg_sub {o i : Expr} {O I : DE} (hasg : ∀ v, assign (.Subscript o i pos) X.env v = (do let ov ← holding [v] (eval o X.env); let iv ← holding [v, ov] (eval i X.env); standAt pos; holding [v, ov, iv] (setItem ov iv v); release [v, ov, iv] [])) (ho : SndE X o O) (hi : SndE X i I) : SndG X (.Subscript o i pos) (gSub O I) [] := by
  intro F ρ env st v w e' st' σ H Q W E r h c
  obtain ⟨x, st1, h1, h⟩ := mb_eq h
  obtain ⟨y, st2, h2, h⟩ := mb_eq h
  refine wG_of (pg_sub pe_w pe_w set_list hasg) ?_
  refine ho F ρ env st x st1 σ H _ W E h1 fun F1 ρ1 w1 H1 p1 r1 => ?_
  refine hi F1 ρ1 env st1 y st2 σ H1 _ p1.wld (E.step p1) h2 fun F2 ρ2 w2 H2 p2 r2 => ?_
  cases hs : setL x y v st2 with
  | none => rw [hs] at h; cases h
  | some s3 =>
    rw [hs] at h; cases h
    unfold setL at hs
    split at hs
    · rename_i l k
      split at hs
      · rename_i xs hl
        split at hs
        · rename_i j hj
          split at hs
          · rename_i hb
            cases hs
            have r1 := r1.step p2
            rw [RelP] at r1
            obtain ⟨_, rfl⟩ := r1
            cases int_ok r2
            obtain ⟨_, vs, e, rc⟩ := p2.wld.cell l _ hl
            refine ⟨_, vs, k, j, rfl, rfl, e, by rw [← rc.length]; exact hj, ?_⟩
            have p3 := p2.wld.set hl (c := .lst (xs.set j v)) (o := .lst (vs.set j w)) ⟨_, rfl, rc.set ((r.step (p1.trans p2)).free0 hb) j⟩
            exact c _ _ _ _ ((p1.trans p2).trans p3) (((E.step p1).step p2).step p3) .refl
          · cases hs
        · cases hs
      · cases hs
    · cases hs

/-! ### comprehensions -/
theorem Ct.ofPst {K : PySem.W.Frag} {F F1 : Hp} {ρ ρ1 : Nat → Addr} {st st1 st' : Sto} {H H1 : Hp} {v : PV} {Q : VK} (a : Pst K F ρ st H F1 ρ1 st1 H1) (c : Ct K F ρ st H v st' Q) : Ct K F1 ρ1 st1 H1 v st' Q := fun F' ρ' w H' p r => c F' ρ' w H' (a.trans p) r
/-- the list that a comprehension fills, beside the world -/
structure Bes (K : PySem.W.Frag) (F1 : Hp) (ρ1 : Nat → Addr) (st1 : Sto) (H1 : Hp) (D : Addr) (F : Hp) (ρ : Nat → Addr) (st : Sto) (H : Hp) (ys : List PV) (acc : List V) : Prop where
  p : Pst K F1 ρ1 st1 H1 F ρ st H
  h1 : H1 D = none
  at' : H D = some (.lst acc)
  nF : F D = none
  nL : ∀ l c, st.cs l = some c → ρ l ≠ D
  rel : RelPs K F ρ st.nxt ys acc
theorem Bes.step {K : PySem.W.Frag} {F1 : Hp} {ρ1 : Nat → Addr} {st1 : Sto} {H1 : Hp} {D : Addr} {F : Hp} {ρ : Nat → Addr} {st : Sto} {H : Hp} {ys : List PV} {acc : List V} {F' : Hp} {ρ' : Nat → Addr} {st' : Sto} {H' : Hp}
    (b : Bes K F1 ρ1 st1 H1 D F ρ st H ys acc) (q : Pst K F ρ st H F' ρ' st' H') : Bes K F1 ρ1 st1 H1 D F' ρ' st' H' ys acc := by
  refine ⟨b.p.trans q, b.h1, q.ext D _ b.at' b.nL, ?_, fun l c z e => ?_, b.rel.step q⟩
  · cases e : F' D with
    | none => rfl
    | some o =>
      rcases q.fz D o e with h | h | ⟨l, c, h1, h2⟩
      · rw [b.nF] at h; cases h
      · rw [b.at'] at h; cases h
      · exact absurd h2 (b.nL l c h1)
  · by_cases h : l < st.nxt
    · obtain ⟨c0, h0⟩ := q.live l c h z
      exact b.nL l c0 h0 (by rw [← q.rho l h]; exact e)
    · have := q.fresh l c (Nat.not_lt.mp h) z
      rw [e, b.at'] at this; cases this
theorem Bes.push {K : PySem.W.Frag} {F1 : Hp} {ρ1 : Nat → Addr} {st1 : Sto} {H1 : Hp} {D : Addr} {F : Hp} {ρ : Nat → Addr} {st : Sto} {H : Hp} {ys : List PV} {acc : List V} {y : PV} {w : V}
    (b : Bes K F1 ρ1 st1 H1 D F ρ st H ys acc) (r : RelP K F ρ st.nxt y w) : Bes K F1 ρ1 st1 H1 D F ρ st (upd H D (.lst (acc ++ [w]))) (ys ++ [y]) (acc ++ [w]) :=
  ⟨b.p.side b.h1 b.nF b.nL, b.h1, upd_same, b.nF, b.nL, b.rel.append (.cons r .nil)⟩
theorem Bes.wld {K : PySem.W.Frag} {F1 : Hp} {ρ1 : Nat → Addr} {st1 : Sto} {H1 : Hp} {D : Addr} {F : Hp} {ρ : Nat → Addr} {st : Sto} {H : Hp} {ys : List PV} {acc : List V} (b : Bes K F1 ρ1 st1 H1 D F ρ st H ys acc) : Wld K F ρ st H := b.p.wld
theorem Bes.start {K : PySem.W.Frag} {F1 : Hp} {ρ1 : Nat → Addr} {st1 : Sto} {H1 : Hp} {D : Addr} (W : Wld K F1 ρ1 st1 H1) (h : H1 D = none) : Bes K F1 ρ1 st1 H1 D F1 ρ1 st1 (upd H1 D (.lst [])) [] [] := by
  have nF : F1 D = none := by
    cases e : F1 D with
    | none => rfl
    | some u => have := W.sub D u e; rw [h] at this; cases this
  have nL : ∀ l c, st1.cs l = some c → ρ1 l ≠ D := fun l c z => W.ne z h
  exact ⟨(Pst.refl W).side h nF nL, h, upd_same, nF, nL, .nil⟩
theorem Bes.fin {K : PySem.W.Frag} {F1 : Hp} {ρ1 : Nat → Addr} {st1 : Sto} {H1 : Hp} {D : Addr} {F : Hp} {ρ : Nat → Addr} {st st' : Sto} {H : Hp} {ys : List PV} {acc : List V} {m : Bool} {v : PV} {Q : VK}
    (b : Bes K F1 ρ1 st1 H1 D F ρ st H ys acc) (h : mkL m ys st = some (v, st')) (c : Ct K F1 ρ1 st1 H1 v st' Q) : Q (.ref D) H := by
  unfold mkL at h
  split at h
  · split at h
    · split at h
      · rename_i hl
        cases h
        refine c _ _ _ _ (b.p.keepL b.h1 b.nF b.nL b.at' (c := .lst ys) ⟨acc, rfl, b.rel.free0 hl⟩) ?_
        rw [RelP]
        exact ⟨by rw [Sto.alloc_nxt]; omega, by rw [if_pos rfl]⟩
      · cases h
    · cases h
      have p := b.p.keepV b.h1 b.nF b.nL b.at'
      refine c _ _ _ _ p ?_
      rw [RelP]
      refine ⟨D, acc, rfl, upd_same, b.rel.mono (fun x u z => ?_) (fun _ _ => rfl) (Nat.le_refl _)⟩
      rw [upd_ne (ne_of_none z b.nF)]; exact z
  · cases h
theorem mkL_len {m : Bool} {ys : List PV} {st : Sto} {r : PV × Sto} (h : mkL m ys st = some r) : ys.length ≤ sizeLine := by
  unfold mkL at h
  split at h
  · assumption
  · cases h
def SndTs (X : Cx) (ifs : List Expr) (D : DT) : Prop := ∃ t, PTs X ifs t ∧ ∀ F ρ env st b st' σ H Q, Wld X.K F ρ st H → ERel X.K F ρ st.nxt env σ → D env st = some (b, st') →
  (∀ F' ρ' H', Pst X.K F ρ st H F' ρ' st' H' → Q b H') → t σ H Q
abbrev Blk (X : Cx) (scope : Scope) (P : Cx → Prop) : Prop := ∀ (s : Shared) (H : Hp) (C : Addr) (cl : List (Str × Addr)) (fp : List Addr), P (X.blk s H scope (compEnvC scope cl C X.env) fp)
/-- the readings of a block's parts, whatever the block -/
def bE (X : Cx) (scope : Scope) (e : Expr) : TE := fun σ H Q => Blk X scope fun Y => wE Y e σ H Q
def bT (X : Cx) (scope : Scope) (e : Expr) : TT := fun σ H Q => Blk X scope fun Y => wT Y e σ H Q
def bG (X : Cx) (scope : Scope) (e : Expr) : TG := fun v σ H Q => Blk X scope fun Y => wG Y e v σ H Q
theorem pe_b {scope : Scope} {e : Expr} : Blk X scope fun Y => PE Y e (bE X scope e) := fun s H C cl fp => ⟨fun pins s' σ H' Q I h => h s H C cl fp pins s' I⟩
theorem pt_b {scope : Scope} {e : Expr} : Blk X scope fun Y => PT Y e (bT X scope e) := fun s H C cl fp => ⟨fun pins s' σ H' Q I h => h s H C cl fp pins s' I⟩
theorem pg_b {scope : Scope} {e : Expr} : Blk X scope fun Y => PG Y e (bG X scope e) := fun s H C cl fp => ⟨fun pins s' σ H' v u Q I r h => h s H C cl fp pins s' u I r⟩
/-- the tests of a comprehension: none or one -/
inductive Ifs (X : Cx) (scope : Scope) : List Expr → DT → Prop
  | nil : Ifs X scope [] tYes
  | one {c : Expr} {D : DT} : (Blk X scope fun Y => SndT Y c D) → Ifs X scope [c] D
def ifsT (X : Cx) (scope : Scope) : List Expr → TT
  | [c] => bT X scope c
  | _ => L2.tYes
theorem Ifs.pts {scope : Scope} {ifs : List Expr} {D : DT} (h : Ifs X scope ifs D) : Blk X scope fun Y => PTs Y ifs (ifsT X scope ifs) := fun s H C cl fp => by
  cases h with
  | nil => exact pts_nil
  | one h => exact pts_one (pt_b s H C cl fp)
theorem Ifs.run {scope : Scope} {ifs : List Expr} {D : DT} (h : Ifs X scope ifs D) {F ρ env st b st' σ H Q} (W : Wld X.K F ρ st H) (E : ERel X.K F ρ st.nxt env σ) (h0 : D env st = some (b, st'))
    (c : ∀ F' ρ' H', Pst X.K F ρ st H F' ρ' st' H' → Q b H') : ifsT X scope ifs σ H Q := by
  cases h with
  | nil => cases h0; exact c F ρ H (Pst.refl W)
  | one h => exact fun s H' C cl fp => h s H' C cl fp F ρ env st b st' σ H Q W E h0 c
theorem lc_run {elt it : Expr} {ifs : List Expr} {scope : Scope} {vs : List Nat} {I : DI} {G : DG} {T : DT} {A : DE} {m : Bool} (hI : SndI X tg it I) {js : List Nat} (hG : Blk X scope fun Y => SndG Y tg G js) (hjs : ∀ j ∈ js, j ∈ vs) (hT : Ifs X scope ifs T) (hA : Blk X scope fun Y => SndE Y elt A)
    {F : Hp} {ρ : Nat → Addr} {env : Env} {st : Sto} {v : PV} {st' : Sto} {σ : L2.St} {H : Hp} {Q : VK} (W : Wld X.K F ρ st H) (E : ERel X.K F ρ st.nxt env σ) (h : dLc m vs I G T A env st = some (v, st')) (c : Ct X.K F ρ st H v st' Q) :
    tLc (wI X tg it) (bG X scope tg) (ifsT X scope ifs) (bE X scope elt) vs σ H Q := by
  obtain ⟨its, st1, h1, h⟩ := mb_eq h
  obtain ⟨ys, st2, h2, h⟩ := mb_eq h
  refine hI F ρ env st its st1 σ H _ W E h1 fun F1 ρ1 J H1 p1 drv => ?_
  intro D hD
  have c1 := Ct.ofPst p1 c
  have E1 := (E.step p1).wipe vs
  have hz := mkL_len h
  have hww := wipe_wipe σ vs
  refine ⟨fun i mm H' => ∃ F2 ρ2 s2 done acc rest, Bes X.K F1 ρ1 st1 H1 D F2 ρ2 s2 H' done acc ∧ i + mm = its.items.length ∧ done.length ≤ i ∧ lcGo its G T A (wipeE env vs) (its.items.drop i) s2 = some (rest, st2) ∧ ys = done ++ rest, ⟨its.items.length, F1, ρ1, st1, [], [], ys, .start p1.wld hD, by omega, Nat.le_refl _, h2, rfl⟩, fun i mm H' hW => ?_⟩
  obtain ⟨F2, ρ2, s2, done, acc, rest, b, em, hdl, hg, rfl⟩ := hW
  have dr := fun hok => drv F2 ρ2 s2 H' i b.p.ex b.p.rho b.p.nxt b.wld hok
  by_cases hi : i < its.items.length
  · rw [List.drop_eq_getElem_cons hi, lcGo] at hg
    split at hg
    · rename_i hok
      obtain ⟨dgo, dyld⟩ := (dr hok).1 its.items[i] (List.getElem?_eq_getElem hi)
      obtain ⟨e1, s3, hg1, hg⟩ := mb_eq hg
      obtain ⟨k, s4, hg2, hg⟩ := mb_eq hg
      refine .inr ⟨dgo, fun H'' => ∃ F2 ρ2 s2 done' acc rest', Bes X.K F1 ρ1 st1 H1 D F2 ρ2 s2 H'' done' acc ∧ done'.length ≤ i + 1 ∧ lcGo its G T A (wipeE env vs) (its.items.drop (i + 1)) s2 = some (rest', st2) ∧ done ++ rest = done' ++ rest',
        fun H'' hN => ?_, fun w H3 hy => ?_⟩
      · obtain ⟨F5, ρ5, s5, d5, a5, r5, b5, l5, g5, y5⟩ := hN
        exact ⟨mm - 1, by omega, F5, ρ5, s5, d5, a5, r5, b5, by omega, l5, g5, y5⟩
      · obtain ⟨F3, p3, r3⟩ := dyld w H3 hy
        have b3 := b.step p3
        have E3 : ERel X.K F3 ρ2 s2.nxt (wipeE env vs) (L2.wipe σ vs) := E1.step b3.p
        intro s0 H0 C0 cl0 fp0
        refine hG s0 H0 C0 cl0 fp0 F3 ρ2 (wipeE env vs) s2 _ w e1 s3 (L2.wipe σ vs) H3 _ b3.wld E3 r3 hg1 fun F4 ρ4 σ4 H4 p4 E4 sb => ⟨(sb.wipe hjs).trans hww, ?_⟩
        · have b4 := b3.step p4
          refine hT.run b4.wld E4 hg2 fun F5 ρ5 H5 p5 => ?_
          have b5 := b4.step p5
          have E5 := E4.step p5
          cases k with
          | false =>
            exact ⟨F5, ρ5, s4, done, acc, rest, b5, by omega, hg, rfl⟩
          | true =>
            obtain ⟨y, s6, hg3, hg⟩ := mb_eq hg
            obtain ⟨zs, s7, hg4, hg⟩ := mb_eq hg
            cases hg
            show bE X scope elt σ4 H5 _
            intro s0 H0 C0 cl0 fp0
            refine hA s0 H0 C0 cl0 fp0 F5 ρ5 e1 s4 y s6 σ4 H5 _ b5.wld E5 hg3 fun F6 ρ6 w6 H6 p6 r6 => ?_
            have b6 := b5.step p6
            refine ⟨acc, b6.at', ?_, F6, ρ6, s6, done ++ [y], acc ++ [w6], zs, b6.push r6, by rw [List.length_append, List.length_singleton]; omega, hg4, by rw [List.append_assoc]; rfl⟩
            have hb := b6.rel.length
            rw [List.length_append, List.length_cons] at hz
            omega
    · cases hg
  · rw [List.drop_eq_nil_of_le (Nat.not_lt.mp hi), lcGo] at hg
    split at hg
    · rename_i hok
      cases hg
      rw [List.append_nil] at h
      exact .inl ⟨(dr hok).2 (Nat.not_lt.mp hi), b.fin h c1⟩
    · cases hg
end
end DL

/-! DL5: statements, defs. -/
namespace DL
open PySem PySem.Spec PyProof.Rows L2

section
variable {X : Cx}
theorem snd_lc {elt it tg : Expr} {ifs : List Expr} {scope : Scope} {pos : Pos} {own : List (Str × Nat)} {I : DI} {G : DG} {T : DT} {A : DE} {m : Bool} {js : List Nat} (hc : X.calm = true) (hN : X.N.Nodup) (ok : BlkOk X.N X.env.scope scope own) (hs : ∀ x, foldedSetIterable it X.env x = pure x)
    (hI : SndI X tg it I) (hG : Blk X scope fun Y => SndG Y tg G js) (hjs : ∀ j ∈ js, j ∈ own.map (·.2)) (hT : Ifs X scope ifs T) (hA : Blk X scope fun Y => SndE Y elt A) :
    SndE X (.ListComp elt [⟨tg, it, ifs, 0⟩] scope pos) (dLc m (own.map (·.2)) I G T A) := by
  intro F ρ env st v st' σ H Q W E h c
  exact wE_of (pe_lc hc hN pi_w ok pg_b hT.pts pe_b hs) (lc_run hI hG hjs hT hA W E h c)

/-! ### statements -/
def EndsOk (K : PySem.W.Frag) (F : Hp) (ρ : Nat → Addr) (st : Sto) (H : Hp) (fl : Fl) (st' : Sto) (E : Ends) : Prop := match fl with
  | .nx e => ∀ F' ρ' σ' H', Pst K F ρ st H F' ρ' st' H' → ERel K F' ρ' st'.nxt e σ' → E.nx σ' H'
  | .bk e => ∀ F' ρ' σ' H', Pst K F ρ st H F' ρ' st' H' → ERel K F' ρ' st'.nxt e σ' → E.bk σ' H'
  | .ct e => ∀ F' ρ' σ' H', Pst K F ρ st H F' ρ' st' H' → ERel K F' ρ' st'.nxt e σ' → E.ct σ' H'
  | .rt v => Ct K F ρ st H v st' E.rt
theorem EndsOk.of {K : PySem.W.Frag} {F F1 : Hp} {ρ ρ1 : Nat → Addr} {st st1 st' : Sto} {H H1 : Hp} {fl : Fl} {E : Ends} (p : Pst K F ρ st H F1 ρ1 st1 H1) (k : EndsOk K F ρ st H fl st' E) : EndsOk K F1 ρ1 st1 H1 fl st' E := by
  cases fl with
  | nx e => exact fun F' ρ' σ' H' q r => k F' ρ' σ' H' (p.trans q) r
  | bk e => exact fun F' ρ' σ' H' q r => k F' ρ' σ' H' (p.trans q) r
  | ct e => exact fun F' ρ' σ' H' q r => k F' ρ' σ' H' (p.trans q) r
  | rt v => exact fun F' ρ' σ' H' q r => k F' ρ' σ' H' (p.trans q) r
def SndS (X : Cx) (s : Stmt) (D : DS) : Prop := ∀ F ρ env st fl st' σ H (E : Ends), Wld X.K F ρ st H → ERel X.K F ρ st.nxt env σ → D env st = some (fl, st') → EndsOk X.K F ρ st H fl st' E → wS X s E σ H
def SndSs (X : Cx) (s : List Stmt) (D : DS) : Prop := ∀ F ρ env st fl st' σ H (E : Ends), Wld X.K F ρ st H → ERel X.K F ρ st.nxt env σ → D env st = some (fl, st') → EndsOk X.K F ρ st H fl st' E → wSs X s E σ H
variable {pos : Pos} {a b c e tg : Expr} {A B C : DE} {s : Stmt} {ss us : List Stmt} {D D' : DS}
theorem sss_nil : SndSs X [] sPass := fun F ρ env st fl st' σ H E W R h k => by
  cases h
  exact wSs_of pss_nil (k F ρ σ H (Pst.refl W) R)
theorem sss_cons (h1 : SndS X s D) (h2 : SndSs X ss D') : SndSs X (s :: ss) (sSeq D D') := fun F ρ env st fl st' σ H E W R h k => by
  obtain ⟨f, st1, h3, h⟩ := mb_eq h
  refine wSs_of (pss_cons ps_w pss_w) ?_
  refine h1 F ρ env st f st1 σ H { E with nx := fun σ' H' => wSs X ss E σ' H' } W R h3 ?_
  cases f with
  | nx e => exact fun F1 ρ1 σ1 H1 p1 R1 => h2 F1 ρ1 e st1 fl st' σ1 H1 E p1.wld R1 h (EndsOk.of p1 k)
  | bk e => cases h; exact k
  | ct e => cases h; exact k
  | rt v => cases h; exact k
theorem sss_one (h1 : SndS X s D) : SndSs X [s] D := fun F ρ env st fl st' σ H E W R h k => wSs_of (pss_one ps_w) (h1 F ρ env st fl st' σ H E W R h k)
theorem ss_pass : SndS X (.Pass pos) sPass := fun F ρ env st fl st' σ H E W R h k => by
  cases h
  exact wS_of ps_pass (k F ρ σ H (Pst.refl W) R)
theorem ss_doc {x : Str} {j : Nat} {pos' : Pos} : SndS X (.Expr (.Constant (.str x) j pos) pos') sPass := fun F ρ env st fl st' σ H E W R h k => by
  cases h
  exact wS_of ps_doc (k F ρ σ H (Pst.refl W) R)
theorem ss_break : SndS X (.Break pos) sBreak := fun F ρ env st fl st' σ H E W R h k => by
  cases h
  exact wS_of ps_break (k F ρ σ H (Pst.refl W) R)
theorem ss_cont : SndS X (.Continue pos) sCont := fun F ρ env st fl st' σ H E W R h k => by
  cases h
  exact wS_of ps_continue (k F ρ σ H (Pst.refl W) R)
theorem ss_expr (ha : SndE X a A) (hs : swapsWith a none pos.line X.env = pure false) : SndS X (.Expr a pos) (sExpr A) := fun F ρ env st fl st' σ H E W R h k => by
  obtain ⟨x, st1, h1, h⟩ := mb_eq h
  cases h
  refine wS_of (ps_expr pe_w hs) ?_
  exact ha F ρ env st x st' σ H _ W R h1 fun F1 ρ1 w1 H1 p1 r1 => k F1 ρ1 σ H1 p1 (R.step p1)
theorem ss_ret (ha : SndE X a A) : SndS X (.Return (some a) pos) (sRet A) := fun F ρ env st fl st' σ H E W R h k => by
  obtain ⟨x, st1, h1, h⟩ := mb_eq h
  cases h
  refine wS_of (ps_ret pe_w) ?_
  exact ha F ρ env st x st' σ H _ W R h1 k
theorem ss_retN : SndS X (.Return none pos) sRetN := fun F ρ env st fl st' σ H E W R h k => by
  cases h
  exact wS_of ps_retN (k F ρ .non H (Pst.refl W) rel_non)
theorem ss_asg {G : DG} {js : List Nat} (hae : (assignEach [tg] X.env).map (·.2) = [assign tg X.env]) (hs : swapsWithSole [tg] a pos.line X.env = pure false) (hw : swappedStores [tg] a X.env = pure none) (ha : SndE X a A) (hg : SndG X tg G js) : SndS X (.Assign [tg] a pos) (sAsg A G) := fun F ρ env st fl st' σ H E W R h k => by
  obtain ⟨x, st1, h1, h⟩ := mb_eq h
  obtain ⟨e1, st2, h2, h⟩ := mb_eq h
  cases h
  refine wS_of (ps_asg pe_w pg_w hs hw (h1 := hae)) ?_
  refine ha F ρ env st x st1 σ H _ W R h1 fun F1 ρ1 w1 H1 p1 r1 => ?_
  exact hg F1 ρ1 env st1 x w1 e1 st' σ H1 E.nx p1.wld (R.step p1) r1 h2 fun F2 ρ2 σ2 H2 p2 R2 _ => k F2 ρ2 σ2 H2 (p1.trans p2) R2
theorem ss_setLc {i : Nat} {y : Str} {py : Pos} {elt it : Expr} {ifs : List Expr} {scope : Scope} {spos : Pos} {own : List (Str × Nat)} {I : DI} {G : DG} {T : DT} {A : DE} {m : Bool} {js : List Nat} (hc : X.calm = true) (hN : X.N.Nodup) (hy : X.N[i]? = some y) (hyl : X.env.scope.names.lookup y = some .local)
    (hsw : swapsWith (.ListComp elt [⟨tg, it, ifs, 0⟩] scope pos) (some (.Name y py)) spos.line X.env = pure true) (ok : BlkOk X.N X.env.scope scope own) (hs : ∀ x, foldedSetIterable it X.env x = pure x)
    (hI : SndI X tg it I) (hG : Blk X scope fun Y => SndG Y tg G js) (hjs : ∀ j ∈ js, j ∈ own.map (·.2)) (hT : Ifs X scope ifs T) (hA : Blk X scope fun Y => SndE Y elt A) :
    SndS X (.Assign [.Name y py] (.ListComp elt [⟨tg, it, ifs, 0⟩] scope pos) spos) (sAsg (dLc m (own.map (·.2)) I G T A) (gName i)) := fun F ρ env st fl st' σ H E W R h k => by
  obtain ⟨x, st1, h1, h⟩ := mb_eq h
  cases h
  refine wS_of (ps_setLc hc hN hy hyl hsw pi_w ok pg_b hT.pts pe_b hs) ?_
  refine lc_run hI hG hjs hT hA W R h1 fun F1 ρ1 w1 H1 p1 r1 => ?_
  exact k F1 ρ1 _ H1 p1 ((R.step p1).set r1 i)
theorem ss_aug {i : Nat} {x : Str} {op : Operator} {f : PV → PV → M PV} {pos' : Pos} (hN : X.N.Nodup) (hi : X.N[i]? = some x) (hx : Loc X.env.scope x) (hf : X.fn x = true ∨ X.env.scope.names.lookup x = some .local) (ho : SndO X (inplaceOp op) f) (ha : SndE X a A) : SndS X (.AugAssign (.Name x pos') op a pos) (sAug f i A) := fun F ρ env st fl st' σ H E W R h k => by
  unfold sAug at h
  split at h
  · rename_i x hx'
    obtain ⟨y, st1, h1, h⟩ := mb_eq h
    obtain ⟨z, st2, h2, h⟩ := mb_eq h
    cases h
    obtain ⟨w, hw, r⟩ := R.2 i _ hx'
    have hop : PIp X op (wR X (inplaceOp op)) := fun pins s σ H x y v u Q I r1 r2 q => q pins s σ v u I r1 r2
    refine wS_of (ps_aug hN hi hx pe_w hop hf) ⟨w, hw, ?_⟩
    refine ha F ρ env st y st1 σ H _ W R h1 fun F1 ρ1 w1 H1 p1 r1 => ?_
    exact ho F1 ρ1 st1 x y w w1 z st' H1 _ p1.wld (r.step p1) r1 h2 fun F2 ρ2 w2 H2 p2 r2 => k F2 ρ2 _ H2 (p1.trans p2) (((R.step p1).step p2).set r2 i)
  · cases h
theorem ss_if {t : Expr} {T : DT} (ht : SndT X t T) (h1 : SndSs X ss D) (h2 : SndSs X us D') : SndS X (.If t ss us pos) (sIf T D D') := fun F ρ env st fl st' σ H E W R h k => by
  obtain ⟨x, st1, h3, h⟩ := mb_eq h
  refine wS_of (ps_if pt_w pss_w pss_w) (ht F ρ env st x st1 σ H _ W R h3 fun F1 ρ1 H1 p1 => ?_)
  cases x with
  | true => exact h1 F1 ρ1 env st1 fl st' σ H1 E p1.wld (R.step p1) h (EndsOk.of p1 k)
  | false => exact h2 F1 ρ1 env st1 fl st' σ H1 E p1.wld (R.step p1) h (EndsOk.of p1 k)
theorem ss_for {it : Expr} {I : DI} {G : DG} {js : List Nat} (hx : X.xe = fun _ _ => False) (hc : X.calm = true) (hI : SndI X tg it I) (hG : SndG X tg G js) (hD : SndSs X ss D) (hs : ∀ x, foldedSetIterable it X.env x = pure x) : SndS X (.For tg it ss [] pos) (sFor I G D) := fun F ρ env st fl st' σ H E W R h k => by
  obtain ⟨its, st1, h1, h⟩ := mb_eq h
  refine wS_of (ps_for (by rw [hx]; exact PassesOwn.never) hc pi_w pg_w pss_w hs) ?_
  refine hI F ρ env st its st1 σ H _ W R h1 fun F1 ρ1 J H1 p1 drv => ?_
  refine ⟨fun i mm σ' H' => ∃ F2 ρ2 e2 s2, Pst X.K F1 ρ1 st1 H1 F2 ρ2 s2 H' ∧ ERel X.K F2 ρ2 s2.nxt e2 σ' ∧ i + mm = its.items.length ∧ forGo its G D (its.items.drop i) e2 s2 = some (fl, st'), ⟨its.items.length, F1, ρ1, env, st1, Pst.refl p1.wld, R.step p1, by omega, h⟩, fun i mm σ' H' hW => ?_⟩
  obtain ⟨F2, ρ2, e2, s2, p2, R2, em, hg⟩ := hW
  have dr := fun hok => drv F2 ρ2 s2 H' i p2.ex p2.rho p2.nxt p2.wld hok
  by_cases hi : i < its.items.length
  · rw [List.drop_eq_getElem_cons hi, forGo] at hg
    split at hg
    · rename_i hok
      obtain ⟨dgo, dyld⟩ := (dr hok).1 its.items[i] (List.getElem?_eq_getElem hi)
      obtain ⟨e3, s3, hg1, hg⟩ := mb_eq hg
      obtain ⟨f, s4, hg2, hg⟩ := mb_eq hg
      refine .inr ⟨dgo, fun σ'' H'' => ∃ F2 ρ2 e2 s2, Pst X.K F1 ρ1 st1 H1 F2 ρ2 s2 H'' ∧ ERel X.K F2 ρ2 s2.nxt e2 σ'' ∧ forGo its G D (its.items.drop (i + 1)) e2 s2 = some (fl, st'), fun σ'' H'' hN => ?_, fun w H3 hy => ?_⟩
      · obtain ⟨F5, ρ5, e5, s5, p5, R5, g5⟩ := hN
        exact ⟨mm - 1, by omega, F5, ρ5, e5, s5, p5, R5, by omega, g5⟩
      · obtain ⟨F3, p3, r3⟩ := dyld w H3 hy
        refine hG F3 ρ2 e2 s2 _ w e3 s3 σ' H3 _ p3.wld (R2.step p3) r3 hg1 fun F4 ρ4 σ4 H4 p4 R4 _ => ?_
        have p5 := (p2.trans p3).trans p4
        refine hD F4 ρ4 e3 s3 f s4 σ4 H4 _ p4.wld R4 hg2 ?_
        cases f with
        | nx e => exact fun F6 ρ6 σ6 H6 p6 R6 => ⟨F6, ρ6, e, s4, p5.trans p6, R6, hg⟩
        | ct e => exact fun F6 ρ6 σ6 H6 p6 R6 => ⟨F6, ρ6, e, s4, p5.trans p6, R6, hg⟩
        | bk e => cases hg; exact fun F6 ρ6 σ6 H6 p6 R6 => k F6 ρ6 σ6 H6 ((p1.trans p5).trans p6) R6
        | rt v => cases hg; exact fun F6 ρ6 σ6 H6 p6 R6 => k F6 ρ6 σ6 H6 ((p1.trans p5).trans p6) R6
    · cases hg
  · rw [List.drop_eq_nil_of_le (Nat.not_lt.mp hi), forGo] at hg
    split at hg
    · rename_i hok
      cases hg
      exact .inl ⟨(dr hok).2 (Nat.not_lt.mp hi), k F2 ρ2 σ' H' (p1.trans p2) R2⟩
    · cases hg
theorem ss_while {t : Expr} {T : DT} (hx : X.xe = fun _ _ => False) (ht : SndT X t T) (hD : SndSs X ss D) : SndS X (.While t ss [] pos) (sWhile T D) := fun F ρ env st fl st' σ H E W R h k => by
  refine wS_of (ps_while (by rw [hx]; exact PassesOwn.never) pt_w pss_w) ?_
  have h : whGo T D 100000 env st = some (fl, st') := h
  refine ⟨fun mm σ' H' => ∃ F2 ρ2 e2 s2, Pst X.K F ρ st H F2 ρ2 s2 H' ∧ ERel X.K F2 ρ2 s2.nxt e2 σ' ∧ whGo T D mm e2 s2 = some (fl, st'), ⟨100000, F, ρ, env, st, Pst.refl W, R, h⟩, fun mm σ' H' hW => ?_⟩
  obtain ⟨F2, ρ2, e2, s2, p2, R2, hg⟩ := hW
  cases mm with
  | zero => cases hg
  | succ mm =>
    rw [whGo] at hg
    obtain ⟨x, s3, hg1, hg⟩ := mb_eq hg
    refine ht F2 ρ2 e2 s2 x s3 σ' H' _ p2.wld R2 hg1 fun F3 ρ3 H3 p3 => ?_
    have p4 := p2.trans p3
    cases x with
    | false => cases hg; exact k F3 ρ3 σ' H3 p4 (R2.step p3)
    | true =>
      obtain ⟨f, s4, hg2, hg⟩ := mb_eq hg
      refine ⟨fun σ'' H'' => ∃ F2 ρ2 e2 s2, Pst X.K F ρ st H F2 ρ2 s2 H'' ∧ ERel X.K F2 ρ2 s2.nxt e2 σ'' ∧ whGo T D mm e2 s2 = some (fl, st'), fun σ'' H'' hN => ⟨mm, Nat.lt_succ_self _, hN⟩, ?_⟩
      refine hD F3 ρ3 e2 s3 f s4 σ' H3 _ p3.wld (R2.step p3) hg2 ?_
      cases f with
      | nx e => exact fun F6 ρ6 σ6 H6 p6 R6 => ⟨F6, ρ6, e, s4, p4.trans p6, R6, hg⟩
      | ct e => exact fun F6 ρ6 σ6 H6 p6 R6 => ⟨F6, ρ6, e, s4, p4.trans p6, R6, hg⟩
      | bk e => cases hg; exact fun F6 ρ6 σ6 H6 p6 R6 => k F6 ρ6 σ6 H6 (p4.trans p6) R6
      | rt v => cases hg; exact fun F6 ρ6 σ6 H6 p6 R6 => k F6 ρ6 σ6 H6 (p4.trans p6) R6
end

/-! ### defs -/
theorem fin_ok {K : PySem.W.Frag} {F F1 : Hp} {ρ ρ1 : Nat → Addr} {st st1 st2 : Sto} {H H1 : Hp} {v v' : PV} {w : V} (p : Pst K F ρ st H F1 ρ1 st1 H1) (r : RelP K F1 ρ1 st1.nxt v w) (h : fin st.nxt v st1 = some (v', st2)) :
    ∃ F2 ρ2, Pst K F ρ st H F2 ρ2 st2 H1 ∧ RelP K F2 ρ2 st2.nxt v' w := by
  have go : (v.res st.nxt st1.cs).map (fun v' => (v', st1.restr st.nxt)) = some (v', st2) → ∃ F2 ρ2, Pst K F ρ st H F2 ρ2 st2 H1 ∧ RelP K F2 ρ2 st2.nxt v' w := fun h => by
    obtain ⟨F2, p2, r2⟩ := settle_ok p r h
    exact ⟨F2, ρ1, p2, r2⟩
  unfold fin at h
  split at h
  · rename_i l
    rw [RelP] at r
    obtain ⟨r1, rfl⟩ := r
    split at h
    · rename_i q
      cases h
      obtain ⟨F2, s, p2, _⟩ := p.drop rfl
      refine ⟨F2, ρ1, p2, ?_⟩
      rw [RelP]
      exact ⟨q, rfl⟩
    · rename_i q
      have q := Nat.not_lt.mp q
      cases hc : st1.cs l with
      | none => rw [hc] at h; cases h
      | some c =>
        rw [hc] at h; cases h
        obtain ⟨hF, hr⟩ := p.wld.cell l c hc
        obtain ⟨o, ho⟩ := hr.some'
        rw [ho] at hr
        have e : (st1.kill l).restr st.nxt = st1.restr st.nxt := Sto.ext' rfl fun j => by
          show (if j < st.nxt then (if j = l then none else st1.cs j) else none) = if j < st.nxt then st1.cs j else none
          by_cases z : j < st.nxt
          · rw [if_pos z, if_pos z, if_neg (by omega)]
          · rw [if_neg z, if_neg z]
        obtain ⟨F2, s, p2, _, g⟩ := (p.kill l).drop rfl
        rw [e] at p2
        have nF : F2 (ρ1 l) = none := by
          cases z : F2 (ρ1 l) with
          | none => rfl
          | some u =>
            rcases g _ _ z with z | ⟨j, d, h1, h2, h3⟩
            · rw [hF] at z; cases z
            · by_cases hj : j = l
              · subst hj; rw [Sto.kill_get] at h2; cases h2
              · rw [Sto.kill_ne hj] at h2
                exact absurd (p.wld.inj j l d c h2 hc h3) hj
        have p3 := p2.keepL (D := ρ1 l) (o := o) (c := c) (p.fresh l c q hc) nF (fun j d z e => by
          have z : (if j < st.nxt then st1.cs j else none) = some d := z
          split at z
          · have := p.wld.inj j l d c z hc e
            omega
          · cases z) ho (hr.mono s)
        refine ⟨F2, _, p3, ?_⟩
        rw [RelP]
        exact ⟨by rw [Sto.alloc_nxt, Sto.restr_nxt]; omega, by rw [Sto.restr_nxt, if_pos rfl]⟩
  · exact go h

/-- where a body stands: names, scope, room -/
structure GoodX (X : Cx) (N : List Str) (sc : Scope) (fn : Str → Bool) (k : Nat) : Prop where
  hN : X.N = N
  hsc : X.env.scope = sc
  hfn : X.fn = fn
  calm : X.calm = true
  nd : N.Nodup
  xe : X.xe = fun _ _ => False
  room : Room k X.A
section
variable {P : Program} {w : World} {K : PySem.W.Frag} {mg : Str → Option Value} {base : Heap}
theorem fn_sound {x qual : Str} {st : Stmt} {f : Addr} {fd : FuncData} {N ps : List Str} {k : Nat} {D : DS} (F : Fun K x qual st f fd) (S : FnScope N ps (defScope st))
    (h : ∀ X : Cx, X.prog = P → X.w = w → X.K = K → X.mg = mg → X.base = base → GoodX X N (defScope st) (fun _ => true) k → SndSs X (defBody st) D) :
    FnOk P w K mg base CX0 (k + 1) f fd ps (spOf K ps.length (runF N.length ps.length D)) := by
  refine F.ok S (fun vs H Q E h => h.1) (fun cdv A outer s H vs Q E hr hsp => ?_)
  obtain ⟨hlen, F0, ρ, st0, args, v, st', W, r, hD, c⟩ := hsp
  refine ⟨_, pss_w, ?_⟩
  unfold runF at hD
  split at hD
  · rename_i hl
    have R : ERel K F0 ρ st0.nxt (args.map some ++ List.replicate (N.length - args.length) none) (L2.start N vs) := by
      unfold L2.start
      rw [r.length]
      refine ⟨by simp [r.length], fun i u e => ?_⟩
      by_cases q : i < args.length
      · rw [List.getElem?_append_left (by rw [List.length_map]; exact q), List.getElem?_map] at e
        cases z : args[i]? with
        | none => rw [z] at e; cases e
        | some y =>
          rw [z] at e; cases e
          obtain ⟨w, hw, rw'⟩ := r.get z
          refine ⟨w, ?_, rw'⟩
          rw [List.getElem?_append_left (by rw [List.length_map, ← r.length]; exact q), List.getElem?_map, hw]
          rfl
      · rw [List.getElem?_append_right (by rw [List.length_map]; omega), List.getElem?_replicate] at e
        split at e <;> cases e
    refine (fun (z : ∃ fl st1, D (args.map some ++ List.replicate (N.length - args.length) none) st0 = some (fl, st1) ∧ EndsOk K F0 ρ st0 H fl st1 { nx := fun _ H' => Q .non H', rt := Q }) => ?_) ?_
    · obtain ⟨fl, st1, z1, z2⟩ := z
      exact h _ rfl rfl rfl rfl rfl ⟨rfl, rfl, rfl, by have := hr.hd; first | rfl | exact decide_eq_true this | simp [cxOf, this], S.nd, rfl, hr⟩ F0 ρ _ st0 fl st1 _ H _ W R z1 z2
    · split at hD
      · rename_i u st1 z
        refine ⟨_, _, z, fun F1 ρ1 w1 H1 p1 r1 => ?_⟩
        obtain ⟨F2, ρ2, p2, r2⟩ := fin_ok p1 r1 hD
        exact c F2 ρ2 w1 H1 p2 r2
      · rename_i e st1 z
        refine ⟨_, _, z, fun F1 ρ1 σ1 H1 p1 R1 => ?_⟩
        obtain ⟨F2, ρ2, p2, r2⟩ := fin_ok p1 rel_non hD
        exact c F2 ρ2 .non H1 p2 r2
      · cases hD
  · cases hD
end
end DL

/-! DL6: from the text's syntax to the pieces, once for all. -/
namespace DL
open PySem PySem.Spec PyProof.Rows L2

/-- what the translator knows: slots, scope, defs (parameters, what they compute), built-ins that are still built-ins, places whose new list may change later -/
structure Ctx where
  N : List Str
  sc : Scope
  fn : Str → Bool
  G : List (Str × Nat × FSem)
  bs : List Str
  mu : List (Nat × Nat × Nat)

def ixOf (x : Str) : List Str → Option Nat
  | [] => none
  | y :: r => if y = x then some 0 else (ixOf x r).map (· + 1)
theorem ixOf_get {x : Str} : ∀ {N : List Str} {i : Nat}, ixOf x N = some i → N[i]? = some x
  | [], _, h => by cases h
  | y :: r, i, h => by
    rw [ixOf] at h
    split at h
    · rename_i e
      cases h
      rw [e]; rfl
    · cases e : ixOf x r with
      | none => rw [e] at h; cases h
      | some j =>
        rw [e] at h; cases h
        show r[j]? = some x
        exact ixOf_get e
def Ctx.flag (C : Ctx) (p : Pos) : Bool := C.mu.contains (p.line, p.col, p.endCol)
def Ctx.isGl (C : Ctx) (x : Str) : Bool := match C.sc.names.lookup x with
  | some .globalImplicit => true
  | _ => false
def Ctx.isB (C : Ctx) (x : Str) : Bool := C.isGl x && C.bs.contains x
def Ctx.vis (C : Ctx) (x : Str) : Bool := match C.sc.names.lookup x with
  | some .local => true
  | some .cell => true
  | some .free => true
  | _ => false
def Ctx.loc (C : Ctx) (x : Str) : Bool := match C.sc.names.lookup x with
  | some .local => true
  | some .cell => C.fn x
  | _ => false

def notStar : Expr → Bool
  | .Starred _ _ => false
  | _ => true
def notSet : Expr → Bool
  | .Set _ _ _ => false
  | _ => true
def notSlice : Expr → Bool
  | .Slice _ _ _ _ => false
  | _ => true
def notComp : Expr → Bool
  | .ListComp _ _ _ _ => false
  | .SetComp _ _ _ _ => false
  | .DictComp _ _ _ _ _ => false
  | _ => true
def notDisp : Expr → Bool
  | .Tuple _ _ _ => false
  | .List _ _ => false
  | _ => true
def notCall : Expr → Bool
  | .Call _ _ _ _ => false
  | _ => true

inductive BI where
  | len | abs | int | max | min | tuple | list | sorted
  deriving DecidableEq
def BI.nm : BI → Str
  | .len => "len" | .abs => "abs" | .int => "int" | .max => "max" | .min => "min" | .tuple => "tuple" | .list => "list" | .sorted => "sorted"
def BI.all : List BI := [.len, .abs, .int, .max, .min, .tuple, .list, .sorted]
noncomputable def BI.sem (m : Bool) : BI → FSem
  | .len => bLen | .abs => bAbs | .int => bInt | .max => bMax | .min => bMin | .tuple => bTuple | .list => bList m | .sorted => bSorted m
def BI.of (x : Str) : Option BI := BI.all.find? fun b => b.nm = x
def BTy.all : List BTy := [.int, .bool, .str, .list, .tuple, .dict]
def BTy.of (x : Str) : Option BTy := BTy.all.find? fun b => b.name = x
theorem BI.of_nm {x : Str} {b : BI} (h : BI.of x = some b) : x = b.nm := by
  have := List.find?_some h
  exact (of_decide_eq_true this).symm
theorem BTy.of_name {x : Str} {b : BTy} (h : BTy.of x = some b) : x = b.name := by
  have := List.find?_some h
  exact (of_decide_eq_true this).symm
inductive LM where
  | append | pop | reverse
  deriving DecidableEq
def LM.nm : LM → Str
  | .append => "append" | .pop => "pop" | .reverse => "reverse"
def LM.of (x : Str) (k : Nat) : Option LM := if x = "append" ∧ k = 1 then some .append else if x = "pop" ∧ k = 0 then some .pop else if x = "reverse" ∧ k = 0 then some .reverse else none
def LM.sem : LM → Nat → FSem
  | .append => mAppend | .pop => mPop | .reverse => mReverse

def opSem (m : Bool) : Operator → Option (PV → PV → M PV)
  | .Add => some (opAdd m)
  | .Sub => some opSub
  | .Mult => some opMul
  | .Mod => some opMod
  | .FloorDiv => some opDiv
  | .Pow => some opPow
  | _ => none
def cmpSem : CmpOp → Option (PV → PV → M PV)
  | .Eq => some (cmpEq false)
  | .NotEq => some (cmpEq true)
  | .Lt => some cmpLt
  | .LtE => some (cmpI fun i j => decide (i ≤ j))
  | .Gt => some (cmpI fun i j => decide (j < i))
  | .GtE => some (cmpI fun i j => decide (j ≤ i))
  | .In => some (cmpIn false)
  | .NotIn => some (cmpIn true)
  | _ => none
def isNeg : CmpOp → Option Bool
  | .Is => some false
  | .IsNot => some true
  | _ => none

def trName (C : Ctx) (x : Str) (fz : Bool) : Option DE := match ixOf x C.N with
  | some i => if C.vis x && !(x == ("__debug__" : Str)) && !(x == ("__classdict__" : Str)) then (if fz then some (dFrz i) else some (dVar i)) else none
  | none => none
def trConst : Const → Option DE
  | .int i => some (dCst (.int i))
  | .bool b => some (dCst (.bl b))
  | .str s => some (dCst (.str s))
  | .none => some (dCst .non)
  | _ => none
def trAs (f : Expr → Option DE) : List Expr → Option DA
  | [] => some aNil
  | e :: r => if notStar e then match f e, trAs f r with
    | some A, some D => some (aCons A D)
    | _, _ => none
    else none
def isNone : Expr → Bool
  | .Constant .none _ _ => true
  | _ => false
def trCmp (f : Expr → Option DE) (a : Expr) : List CmpOp → List Expr → Option DE
  | [op], [b] => match isNeg op with
    | some neg => if isNone b then (f a).map (dUn (cmpIsN neg)) else none
    | none => if notSet b then match f a, f b, cmpSem op with
      | some A, some B, some g => some (dBin g A B)
      | _, _, _ => none
      else none
  | _, _ => none
def trBools (f : Expr → Option DE) (op : DE → DE → DE) : List Expr → Option DE
  | [] => none
  | [e] => f e
  | e :: e2 :: r => match f e, trBools f op (e2 :: r) with
    | some A, some D => some (op A D)
    | _, _ => none
def trTests (f : Expr → Option DT) (op : DT → DT → DT) : List Expr → Option DT
  | [] => none
  | [e] => f e
  | e :: e2 :: r => match f e, trTests f op (e2 :: r) with
    | some A, some D => some (op A D)
    | _, _ => none
def trO (f : Expr → Option DE) : Option Expr → Option DO
  | none => some oNone
  | some e => (f e).map oSome
def trSub (C : Ctx) (f : Expr → Option DE) (a i : Expr) (pos : Pos) : Option DE := match i with
  | .Slice lo hi none _ => match f a, trO f lo, trO f hi with
    | some A, some L, some U => some (dSl (C.flag pos) A L U)
    | _, _, _ => none
  | i => if notSlice i then match f a, f i with
    | some A, some I => some (dBin opIx A I)
    | _, _ => none
    else none
def isIsi : List Expr → Option (Expr × Str)
  | [a, .Name t _] => some (a, t)
  | _ => none
def isSet (x : Str) : List Expr → Option Expr
  | [.Call (.Name y _) [a] [] _] => if x = "sorted" ∧ y = "set" then some a else none
  | _ => none
theorem mapS {α β : Type} {D : Option α} {f : α → β} {b : β} (h : D.map f = some b) : ∃ A, D = some A ∧ b = f A := by
  cases D with
  | none => cases h
  | some A => cases h; exact ⟨A, rfl, rfl⟩
theorem isSet_eq {x : Str} {es : List Expr} {a : Expr} (h : isSet x es = some a) : x = "sorted" ∧ ∃ p2 pos2, es = [.Call (.Name "set" p2) [a] [] pos2] := by
  unfold isSet at h
  split at h
  · split at h
    · rename_i q
      cases h
      obtain ⟨rfl, rfl⟩ := q
      exact ⟨rfl, _, _, rfl⟩
    · cases h
  · cases h
noncomputable def trCallN (C : Ctx) (f : Expr → Option DE) (x : Str) (as : List Expr) (pos : Pos) : Option DE := match as with
  | [] => none
  | e :: r =>
    if x = "isinstance" then (if C.isB x then match isIsi (e :: r) with
      | some (a, t) => if notStar a && C.isB t then match BTy.of t, f a with
        | some T, some A => some (dUn (bIsi T) A)
        | _, _ => none
        else none
      | none => none
      else none)
    else if C.isB x then match isSet x (e :: r) with
      | some a => if C.isB "set" && notStar a then (f a).map fun A => dApp (bSortedSet (C.flag pos)) (aCons A aNil) else none
      | none => match BI.of x, trAs f (e :: r) with
        | some b, some D => some (dApp (b.sem (C.flag pos)) D)
        | _, _ => none
    else if C.isGl x && !(x == ("__debug__" : Str)) then match C.G.lookup x, trAs f (e :: r) with
      | some (np, S), some D => if (e :: r).length = np then some (dCall S (C.flag pos) D) else none
      | _, _ => none
    else none
def trMeth (f : Expr → Option DE) (o : Expr) (name : Str) (as : List Expr) (apos pos : Pos) : Option DE :=
  if notCall o && apos.endLine == pos.line then match LM.of name as.length, f o, trAs f as with
    | some m, some O, some D => some (dMetL m.sem O D)
    | _, _, _ => none
  else none
def ownOf (N : List Str) : List (Str × NameKind) → List (Str × Nat)
  | [] => []
  | (x, k) :: r => if k = .local ∨ k = .cell then match ixOf x N with
    | some i => (x, i) :: ownOf N r
    | none => ownOf N r
    else ownOf N r
def Ctx.blk (C : Ctx) (scope : Scope) : Ctx := { C with sc := relS scope C.sc, fn := fun x => scope.names.lookup x == some .cell }
def trTuple (f : Expr → Option (DG × List Nat)) : List Expr → Option (List DG × List Nat)
  | [] => some ([], [])
  | e :: r => if notStar e then match f e, trTuple f r with
    | some (G, js), some (Gs, ks) => some (G :: Gs, js ++ ks)
    | _, _ => none
    else none
noncomputable def trLc (C : Ctx) (m : Bool) (scope : Scope) (tE : Ctx → Expr → Option DE) (tT : Ctx → Expr → Option DT) (tI : Ctx → Expr → Option DI) (tG : Ctx → Expr → Option (DG × List Nat)) (elt tg it : Expr) (ifs : List Expr) : Option DE :=
  if blkC C.N C.sc scope (ownOf C.N scope.names) && notSet it then
    match tI C it, tG (C.blk scope) tg, tE (C.blk scope) elt with
    | some I, some (G, js), some A =>
      if js.all fun j => ((ownOf C.N scope.names).map (·.2)).contains j then
        match ifs with
        | [] => some (dLc m ((ownOf C.N scope.names).map (·.2)) I G tYes A)
        | [c] => (tT (C.blk scope) c).map fun T => dLc m ((ownOf C.N scope.names).map (·.2)) I G T A
        | _ => none
      else none
    | _, _, _ => none
  else none
def isOneGen : List Comprehension → Option (Expr × Expr × List Expr)
  | [⟨tg, it, ifs, a⟩] => if a = 0 then some (tg, it, ifs) else none
  | _ => none
def isRng (C : Ctx) : Expr → Option (List Expr)
  | .Call (.Name x _) as [] _ => if x = "range" ∧ C.isB x then some as else none
  | _ => none

def isRev (C : Ctx) : Expr → Option Expr
  | .Call (.Name x _) [a] [] _ => if x = "reversed" ∧ C.isB x then some a else none
  | _ => none
theorem isRev_eq {C : Ctx} {e a : Expr} (h : isRev C e = some a) : ∃ p pos, e = .Call (.Name "reversed" p) [a] [] pos ∧ C.isB "reversed" = true := by
  unfold isRev at h
  split at h
  · split at h
    · rename_i q
      cases h
      obtain ⟨rfl, q⟩ := q
      exact ⟨_, _, rfl, q⟩
    · cases h
  · cases h
abbrev FE := Ctx → Expr → Option DE
abbrev FT := Ctx → Expr → Option DT
abbrev FI := Ctx → Expr → Option DI
abbrev FG := Ctx → Expr → Option (DG × List Nat)
noncomputable def trE1 (tE : FE) (tT : FT) (tI : FI) (tG : FG) (C : Ctx) (e : Expr) : Option DE := match e with
    | .Name x p => trName C x (C.flag p)
    | .Constant c _ _ => trConst c
    | .BinOp a op b p => match tE C a, tE C b, opSem (C.flag p) op with
      | some A, some B, some g => some (dBin g A B)
      | _, _, _ => none
    | .UnaryOp op a _ => match op with
      | .USub => (tE C a).map (dUn opNeg)
      | .Not => (tE C a).map (dUn opNot)
      | _ => none
    | .BoolOp op es _ => match op with
      | .And => trBools (tE C) dAnd es
      | .Or => trBools (tE C) dOr es
    | .Compare a ops bs _ => trCmp (tE C) a ops bs
    | .IfExp t a b _ => match tT C t, tE C a, tE C b with
      | some T, some A, some B => some (dIte T A B)
      | _, _, _ => none
    | .Tuple es _ _ => (trAs (tE C) es).map dTup
    | .List es p => (trAs (tE C) es).map (dLst (C.flag p))
    | .Subscript a i p => trSub C (tE C) a i p
    | .Call f as ks p => match ks with
      | [] => match f with
        | .Name x _ => trCallN C (tE C) x as p
        | .Attribute o name ap => trMeth (tE C) o name as ap p
        | _ => none
      | _ => none
    | .ListComp elt gs scope p => match isOneGen gs with
      | some (tg, it, ifs) => trLc C (C.flag p) scope tE tT tI tG elt tg it ifs
      | none => none
    | _ => none
def trT1 (tE : FE) (tT : FT) (C : Ctx) (e : Expr) : Option DT := match e with
    | .UnaryOp op a p => match op with
      | .Not => (tT C a).map tNot
      | _ => none
    | .BoolOp op es _ => match op with
      | .And => trTests (tT C) tAnd es
      | .Or => trTests (tT C) tOr es
    | .Compare a ops bs _ => (trCmp (tE C) a ops bs).map tVal
    | .Name x p => (tE C (.Name x p)).map tVal
    | .Call f as ks p => (tE C (.Call f as ks p)).map tVal
    | .Subscript a i p => (tE C (.Subscript a i p)).map tVal
    | _ => none
def trI1 (tE : FE) (C : Ctx) (e : Expr) : Option DI := match isRng C e with
    | some [a] => if notStar a then (tE C a).map iRng1 else none
    | some [a, b] => if notStar a && notStar b then match tE C a, tE C b with
      | some A, some B => some (iRng2 A B)
      | _, _ => none
      else none
    | some _ => none
    | none => match isRev C e with
      | some a => if notStar a then (tE C a).map iRev else none
      | none => (tE C e).map iSeq
def trG1 (tE : FE) (tG : FG) (C : Ctx) (e : Expr) : Option (DG × List Nat) := match e with
    | .Name x _ => match ixOf x C.N with
      | some i => if C.loc x then some (gName i, [i]) else none
      | none => none
    | .Tuple es _ _ => match trTuple (tG C) es with
      | some (Gs, js) => some (gTup Gs, js)
      | none => none
    | .Subscript o i _ => if notSlice i then match tE C o, tE C i with
      | some O, some I => some (gSub O I, [])
      | _, _ => none
      else none
    | _ => none
mutual
noncomputable def trE : Nat → FE
  | 0 => fun _ _ => none
  | n + 1 => trE1 (trE n) (trT n) (trI n) (trG n)
noncomputable def trT : Nat → FT
  | 0 => fun _ _ => none
  | n + 1 => trT1 (trE n) (trT n)
noncomputable def trI : Nat → FI
  | 0 => fun _ _ => none
  | n + 1 => trI1 (trE n)
noncomputable def trG : Nat → FG
  | 0 => fun _ _ => none
  | n + 1 => trG1 (trE n) (trG n)
end
def isLcAsg (C : Ctx) (pos : Pos) : List Expr → Expr → Option (Str × Expr × Expr × Expr × List Expr × Scope × Pos)
  | [.Name y py], .ListComp elt gs scope p => match isOneGen gs with
    | some (tg, it, ifs) => if py.line == p.line && !(scope.names.any fun (n, k) => n == y && (k == .local || k == .cell)) then some (y, elt, tg, it, ifs, scope, p) else none
    | none => none
  | _, _ => none
def isLocal (C : Ctx) (x : Str) : Bool := match C.sc.names.lookup x with
  | some .local => true
  | _ => false
def okAsg : List Expr → Expr → Bool
  | [.Name _ _], e => notComp e
  | [.Tuple _ _ _], e => notComp e && notDisp e
  | [.Subscript _ _ _], e => notComp e
  | _, _ => false
abbrev FS := Ctx → Stmt → Option DS
abbrev FSs := Ctx → List Stmt → Option DS
noncomputable def trS1 (tE : FE) (tT : FT) (tI : FI) (tG : FG) (tSs : FSs) (C : Ctx) (s : Stmt) : Option DS := match s with
    | .Return v _ => match v with
      | none => some sRetN
      | some e => (tE C e).map sRet
    | .Expr e _ => match e with
      | .Constant (.str _) _ _ => some sPass
      | .Call f as ks p => (tE C (.Call f as ks p)).map sExpr
      | _ => none
    | .Assign tgs e pos => match isLcAsg C pos tgs e with
      | some (y, elt, tg, it, ifs, scope, p) => match trLc C (C.flag p) scope tE tT tI tG elt tg it ifs, ixOf y C.N with
        | some A, some i => if isLocal C y then some (sAsg A (gName i)) else if C.loc y then some (sAsg A (gName i)) else none
        | _, _ => none
      | none => if okAsg tgs e then match tE C e, tG C (tgs.headD e) with
        | some A, some (G, _) => some (sAsg A G)
        | _, _ => none
        else none
    | .If t a b _ => match tT C t, tSs C a, tSs C b with
      | some T, some A, some B => some (sIf T A B)
      | _, _, _ => none
    | .For tg it a b _ => match b with
      | [] => if notSet it then match tI C it, tG C tg, tSs C a with
        | some I, some (G, _), some A => some (sFor I G A)
        | _, _, _ => none
        else none
      | _ => none
    | .While t a b _ => match b with
      | [] => match tT C t, tSs C a with
        | some T, some A => some (sWhile T A)
        | _, _ => none
      | _ => none
    | .Pass _ => some sPass
    | .Break _ => some sBreak
    | .Continue _ => some sCont
    | _ => none
def trSs1 (tS : FS) (tSs : FSs) (C : Ctx) (ss : List Stmt) : Option DS := match ss with
    | [] => some sPass
    | [s] => tS C s
    | s :: r => match tS C s, tSs C r with
      | some A, some B => some (sSeq A B)
      | _, _ => none
mutual
noncomputable def trS : Nat → FS
  | 0 => fun _ _ => none
  | n + 1 => trS1 (trE n) (trT n) (trI n) (trG n) (trSs n)
noncomputable def trSs : Nat → FSs
  | 0 => fun _ _ => none
  | n + 1 => trSs1 (trS n) (trSs n)
end

/-! ### it is right -/
/-- the defs keep their promises -/
def GOk (X : Cx) (G : List (Str × Nat × FSem)) (k : Nat) : Prop := ∀ x np S, G.lookup x = some (np, S) → ∃ f fd ps, FnOk X.prog X.w X.K X.mg X.base CX0 k f fd ps (spOf X.K np S) ∧ X.mg x = some (.ref f) ∧ PySem.W.keepIn X.K (.ref f) = true ∧ Binds X.K fd ps []
structure Good (X : Cx) (C : Ctx) (k : Nat) : Prop where
  x : GoodX X C.N C.sc C.fn k
  g : GOk X C.G k
  b : ∀ n, C.bs.contains n = true → X.mg n = none
  kd : X.env.scope.kind = .function
section
variable {X : Cx} {C : Ctx} {k : Nat}
theorem Good.gl (g : Good X C k) {x : Str} (h : C.isGl x = true) : Gl X x := by
  unfold Ctx.isGl at h
  show X.env.scope.names.lookup x = some .globalImplicit
  rw [g.x.hsc]
  split at h
  · assumption
  · cases h
theorem Good.bi (g : Good X C k) {x : Str} (h : C.isB x = true) : Gl X x ∧ X.mg x = none := by
  unfold Ctx.isB at h
  rw [Bool.and_eq_true] at h
  exact ⟨g.gl h.1, g.b x h.2⟩
theorem Good.vis (g : Good X C k) {x : Str} (h : C.vis x = true) : Vis X.env.scope x := by
  unfold Ctx.vis at h
  unfold Vis
  rw [g.x.hsc]
  split at h
  · exact .inl (by assumption)
  · exact .inr (.inl (by assumption))
  · exact .inr (.inr (by assumption))
  · cases h
theorem Good.loc (g : Good X C k) {x : Str} (h : C.loc x = true) : L2.Loc X.env.scope x ∧ (X.fn x = true ∨ X.env.scope.names.lookup x = some .local) := by
  unfold Ctx.loc at h
  unfold L2.Loc
  rw [g.x.hsc, g.x.hfn]
  split at h
  · exact ⟨.inl (by assumption), .inr (by assumption)⟩
  · exact ⟨.inr (by assumption), .inl h⟩
  · cases h
theorem Good.blk (g : Good X C k) (scope : Scope) (hk : scope.kind = .function) : Blk X scope fun Y => Good Y (C.blk scope) k := fun s H A cl fp => by
  refine ⟨⟨g.x.hN, ?_, rfl, g.x.calm, g.x.nd, rfl, g.x.room⟩, g.g, g.b, hk⟩
  show relabel scope X.env = relS scope C.sc
  rw [← g.x.hsc]
  rfl
theorem starEach_cons {e : Expr} {es : List Expr} {env : PySem.Env} (h : notStar e = true) : starEach (e :: es) env = (false, eval e env) :: starEach es env := by
  cases e <;> first | rfl | cases h
theorem starEach_plain {env : PySem.Env} {pos : Pos} : ∀ {es : List Expr}, es.all notStar = true → (backTo pos (starEach es env)).any (·.1) = false ∧ (starEach es env).length = es.length
  | [], _ => by
    have e : starEach [] env = [] := rfl
    rw [e]; exact ⟨rfl, rfl⟩
  | e :: es, h => by
    rw [List.all_cons, Bool.and_eq_true] at h
    obtain ⟨h1, h2⟩ := starEach_plain (env := env) (pos := pos) h.2
    rw [starEach_cons h.1]
    refine ⟨?_, by rw [List.length_cons, List.length_cons, h2]⟩
    show (false || (backTo pos (starEach es env)).any (·.1)) = false
    rw [h1]; rfl
theorem trAs_plain {f : Expr → Option DE} : ∀ {es : List Expr} {D : DA}, trAs f es = some D → es.all notStar = true
  | [], _, _ => rfl
  | e :: r, D, h => by
    rw [trAs] at h
    split at h
    · rename_i q
      split at h
      · rename_i A D' _ h2
        rw [List.all_cons, q, trAs_plain h2]; rfl
      · cases h
    · cases h
theorem trAs_ok {f : Expr → Option DE} (hf : ∀ e A, f e = some A → SndE X e A) : ∀ {es : List Expr} {D : DA}, trAs f es = some D → SndA X es D
  | [], _, h => by rw [trAs] at h; cases h; exact snd_anil
  | e :: r, D, h => by
    rw [trAs] at h
    split at h
    · rename_i q
      split at h
      · rename_i A D' h1 h2
        cases h
        exact snd_acons (starEach_cons q) (hf e A h1) (trAs_ok hf h2)
      · cases h
    · cases h
theorem trAs_len {f : Expr → Option DE} : ∀ {es : List Expr} {D : DA}, trAs f es = some D → ∀ env st xs st', D env st = some (xs, st') → xs.length = es.length
  | [], _, h, env, st, xs, st', h2 => by rw [trAs] at h; cases h; cases h2; rfl
  | e :: r, D, h, env, st, xs, st', h2 => by
    rw [trAs] at h
    split at h
    · split at h
      · rename_i A D' _ hd
        cases h
        obtain ⟨x, s1, _, h2⟩ := mb_eq h2
        obtain ⟨ys, s2, h3, h2⟩ := mb_eq h2
        cases h2
        rw [List.length_cons, List.length_cons, trAs_len hd _ _ _ _ h3]
      · cases h
    · cases h
theorem opSem_ok {m : Bool} {op : Operator} {g : PV → PV → M PV} (h : opSem m op = some g) : SndO X (binaryOp op) g := by
  cases op <;> cases h
  · exact so_add
  · exact so_sub
  · exact so_mul
  · exact so_mod
  · exact so_pow
  · exact so_div
theorem cmpSem_ok (g : Good X C k) {op : CmpOp} {f : PV → PV → M PV} (h : cmpSem op = some f) : SndO X (compareOp op) f := by
  have hu : X.A.units + 65 < cLine := by have := g.x.room.un; omega
  cases op <;> cases h
  · exact so_eq hu
  · exact so_ne hu
  · exact so_lt hu
  · exact so_le
  · exact so_gt
  · exact so_ge
  · exact so_in hu
  · exact so_notIn hu
theorem isNone_eq {b : Expr} (h : isNone b = true) : ∃ j p, b = .Constant .none j p := by
  unfold isNone at h
  split at h
  · exact ⟨_, _, rfl⟩
  · cases h
theorem isNeg_eq {op : CmpOp} {neg : Bool} (h : isNeg op = some neg) : op = isOp neg := by
  cases op <;> cases h <;> rfl
theorem noMark {op : CmpOp} {b : Expr} (h : notSet b = true) : behindInMarks op b = false := by
  cases b <;> first | rfl | cases h
theorem trCmp_ok (g : Good X C k) {f : Expr → Option DE} (hf : ∀ e A, f e = some A → SndE X e A) {a : Expr} {ops : List CmpOp} {bs : List Expr} {pos : Pos} {D : DE} (h : trCmp f a ops bs = some D) : SndE X (.Compare a ops bs pos) D ∧ SndT X (.Compare a ops bs pos) (tVal D) := by
  unfold trCmp at h
  split at h
  · rename_i op b
    split at h
    · rename_i neg hn
      split at h
      · rename_i hb
        obtain ⟨j, p, rfl⟩ := isNone_eq hb
        cases isNeg_eq hn
        cases ha : f a with
        | none => rw [ha] at h; cases h
        | some A =>
          rw [ha] at h; cases h
          exact ⟨snd_isN (hf a A ha), tst_isN (hf a A ha)⟩
      · cases h
    · split at h
      · rename_i hs
        split at h
        · rename_i A B q ha hb hq
          cases h
          exact ⟨snd_cmp (cmpSem_ok g hq) (hf a A ha) (hf b B hb) (noMark hs), tst_cmp (cmpSem_ok g hq) (hf a A ha) (hf b B hb) (noMark hs)⟩
        · cases h
      · cases h
  · cases h
theorem trBools_and {f : Expr → Option DE} (hf : ∀ e A, f e = some A → SndE X e A) {pos : Pos} : ∀ {es : List Expr} {D : DE}, trBools f dAnd es = some D → SndE X (.BoolOp .And es pos) D
  | [], _, h => by cases h
  | [e], D, h => snd_one (hf e D h)
  | e :: e2 :: r, D, h => by
    rw [trBools] at h
    split at h
    · rename_i A D' h1 h2
      cases h
      exact snd_and (hf e A h1) (trBools_and hf h2)
    · cases h
theorem trBools_or {f : Expr → Option DE} (hf : ∀ e A, f e = some A → SndE X e A) {pos : Pos} : ∀ {es : List Expr} {D : DE}, trBools f dOr es = some D → SndE X (.BoolOp .Or es pos) D
  | [], _, h => by cases h
  | [e], D, h => snd_one (hf e D h)
  | e :: e2 :: r, D, h => by
    rw [trBools] at h
    split at h
    · rename_i A D' h1 h2
      cases h
      exact snd_or (hf e A h1) (trBools_or hf h2)
    · cases h
theorem trTests_and {f : Expr → Option DT} (hf : ∀ e A, f e = some A → SndT X e A) {pos : Pos} : ∀ {es : List Expr} {D : DT}, trTests f tAnd es = some D → SndW X (.BoolOp .And es pos) D
  | [], _, h => by cases h
  | [e], D, h => w_and1 (hf e D h)
  | e :: e2 :: r, D, h => by
    rw [trTests] at h
    split at h
    · rename_i A D' h1 h2
      cases h
      exact w_and (hf e A h1) (trTests_and hf h2)
    · cases h
theorem trTests_or {f : Expr → Option DT} (hf : ∀ e A, f e = some A → SndT X e A) {pos : Pos} : ∀ {es : List Expr} {D : DT}, trTests f tOr es = some D → SndW X (.BoolOp .Or es pos) D
  | [], _, h => by cases h
  | [e], D, h => w_or1 (hf e D h)
  | e :: e2 :: r, D, h => by
    rw [trTests] at h
    split at h
    · rename_i A D' h1 h2
      cases h
      exact w_or (hf e A h1) (trTests_or hf h2)
    · cases h
theorem trO_ok {f : Expr → Option DE} (hf : ∀ e A, f e = some A → SndE X e A) {o : Option Expr} {D : DO} (h : trO f o = some D) : SndOp X o D := by
  cases o with
  | none => cases h; exact sop_none
  | some e =>
    rw [trO] at h
    cases ha : f e with
    | none => rw [ha] at h; cases h
    | some A => rw [ha] at h; cases h; exact sop_some (hf e A ha)
theorem plainIx {i : Expr} (h : notSlice i = true) : PlainIx i := by
  intro o v
  cases i <;> first | rfl | cases h
theorem trSub_ok {f : Expr → Option DE} (hf : ∀ e A, f e = some A → SndE X e A) {a i : Expr} {pos : Pos} {D : DE} (h : trSub C f a i pos = some D) : SndE X (.Subscript a i pos) D := by
  unfold trSub at h
  split at h
  · split at h
    · rename_i A L U h1 h2 h3
      cases h
      exact snd_sl (hf _ _ h1) (trO_ok hf h2) (trO_ok hf h3)
    · cases h
  · split at h
    · rename_i hs
      split at h
      · rename_i A I h1 h2
        cases h
        exact snd_ix (plainIx hs) (hf _ _ h1) (hf _ _ h2) snd_opIx
      · cases h
    · cases h
theorem bi_ok (g : Good X C k) {b : BI} {m : Bool} {e : Expr} {es : List Expr} {D : DA} {p pos : Pos} (hg : Gl X b.nm) (hm : X.mg b.nm = none) (ha : SndA X (e :: es) D) (he : starEach (e :: es) X.env = (false, eval e X.env) :: starEach es X.env) (hpl : (backTo pos (starEach es X.env)).any (·.1) = false) :
    SndE X (.Call (.Name b.nm p) (e :: es) [] pos) (dApp (b.sem m) D) := by
  cases b
  · exact snd_callB sc_len hg hm (by decide +kernel) ha (by decide +kernel) (by decide +kernel) he hpl
  · exact snd_callB sc_abs hg hm (by decide +kernel) ha (by decide +kernel) (by decide +kernel) he hpl
  · exact snd_callTy sc_int hg hm (by decide +kernel) ha (by decide +kernel) (by decide +kernel) he hpl
  · exact snd_callB (sc_max g.x.calm) hg hm (by decide +kernel) ha (by decide +kernel) (by decide +kernel) he hpl
  · exact snd_callB (sc_min g.x.calm) hg hm (by decide +kernel) ha (by decide +kernel) (by decide +kernel) he hpl
  · exact snd_callTy sc_tuple hg hm (by decide +kernel) ha (by decide +kernel) (by decide +kernel) he hpl
  · exact snd_callTy sc_list hg hm (by decide +kernel) ha (by decide +kernel) (by decide +kernel) he hpl
  · exact snd_callB sc_sorted hg hm (by decide +kernel) ha (by decide +kernel) (by decide +kernel) he hpl
theorem isIsi_eq {es : List Expr} {a : Expr} {t : Str} (h : isIsi es = some (a, t)) : ∃ p, es = [a, .Name t p] := by
  unfold isIsi at h
  split at h
  · cases h; exact ⟨_, rfl⟩
  · cases h
theorem trCallN_ok (g : Good X C k) {f : Expr → Option DE} (hf : ∀ e A, f e = some A → SndE X e A) {x : Str} {as : List Expr} {p pos : Pos} {D : DE} (h : trCallN C f x as pos = some D) : SndE X (.Call (.Name x p) as [] pos) D := by
  unfold trCallN at h
  split at h
  · cases h
  · rename_i e r
    split at h
    · rename_i hx
      split at h
      · rename_i hb
        split at h
        · rename_i a t hi
          split at h
          · rename_i hs
            rw [Bool.and_eq_true] at hs
            split at h
            · rename_i T A hT hA
              cases h
              obtain ⟨p2, hi⟩ := isIsi_eq hi
              rw [hi]
              cases BTy.of_name hT
              obtain ⟨g1, g2⟩ := g.bi hb
              obtain ⟨g3, g4⟩ := g.bi hs.2
              exact snd_isi hx g1 g2 g3 g4 (hf a A hA) (starEach_cons hs.1)
            · cases h
          · cases h
        · cases h
      · cases h
    · split at h
      · rename_i hb
        split at h
        · rename_i a ha
          split at h
          · rename_i hs
            rw [Bool.and_eq_true] at hs
            obtain ⟨A, h1, rfl⟩ := mapS h
            obtain ⟨rfl, p2, pos2, he⟩ := isSet_eq ha
            obtain ⟨g1, g2⟩ := g.bi hb
            obtain ⟨g3, g4⟩ := g.bi hs.1
            rw [he]
            exact snd_sortedSet g.x.calm (by have := g.x.room.un; omega) g1 g2 g3 g4 (snd_acons (starEach_cons hs.2) (hf _ _ h1) snd_anil) (starEach_cons hs.2)
          · cases h
        split at h
        · rename_i b D' h1 h2
          cases h
          cases BI.of_nm h1
          obtain ⟨g1, g2⟩ := g.bi hb
          have hp := trAs_plain h2
          rw [List.all_cons, Bool.and_eq_true] at hp
          exact bi_ok g g1 g2 (trAs_ok hf h2) (starEach_cons hp.1) (starEach_plain hp.2).1
        · cases h
      · split at h
        · rename_i hb
          rw [Bool.and_eq_true] at hb
          split at h
          · rename_i np S D' h1 h2
            split at h
            · rename_i hnp
              cases h
              obtain ⟨fa, fd, ps, h3, h4, h5, h6⟩ := g.g x np S h1
              have hp := trAs_plain h2
              rw [List.all_cons, Bool.and_eq_true] at hp
              have hd : (x == ("__debug__" : Str)) = false := by
                have := hb.2
                cases q : x == ("__debug__" : Str) with
                | true => rw [q] at this; cases this
                | false => rfl
              exact snd_call h3 g.x.room (g.gl hb.1) h4 h5 h6 hnp (trAs_ok hf h2) (fun env st xs st' z => by rw [trAs_len h2 env st xs st' z]; exact hnp) hd (starEach_cons hp.1) (starEach_plain hp.2).1
            · cases h
          · cases h
        · cases h
theorem attrBase {o : Expr} {name : Str} {env : PySem.Env} (h : notCall o = true) : attributeBase o name env (eval o env) = eval o env := by
  cases o <;> first | rfl | cases h
theorem trMeth_ok (g : Good X C k) {f : Expr → Option DE} (hf : ∀ e A, f e = some A → SndE X e A) {o : Expr} {name : Str} {as : List Expr} {ap pos : Pos} {D : DE} (h : trMeth f o name as ap pos = some D) : SndE X (.Call (.Attribute o name ap) as [] pos) D := by
  unfold trMeth at h
  split at h
  · rename_i hc
    rw [Bool.and_eq_true] at hc
    split at h
    · rename_i m O D' h1 h2 h3
      cases h
      unfold LM.of at h1
      split at h1
      · rename_i q
        cases h1
        obtain ⟨rfl, hl⟩ := q
        cases as with
        | nil => cases hl
        | cons e r =>
          cases r with
          | cons _ _ => cases hl
          | nil =>
            have hp := trAs_plain h3
            rw [List.all_cons, Bool.and_eq_true] at hp
            refine snd_met PySem.F.slot_list_append PySem.F.type_list_append sm_append (hf _ _ h2) (trAs_ok hf h3) (attrBase hc.1) ?_ hc.2 (starEach_cons hp.1) (starEach_plain hp.2).1
            rw [starEach_cons hp.1]
            rfl
      · split at h1
        · rename_i q
          cases h1
          obtain ⟨rfl, hl⟩ := q
          cases as with
          | cons _ _ => cases hl
          | nil =>
            rw [trAs] at h3; cases h3
            exact snd_met0 PySem.F.slot_list_pop PySem.F.type_list_pop sm_pop (hf _ _ h2) (attrBase hc.1) hc.2
        · split at h1
          · rename_i q
            cases h1
            obtain ⟨rfl, hl⟩ := q
            cases as with
            | cons _ _ => cases hl
            | nil =>
              rw [trAs] at h3; cases h3
              exact snd_met0 PySem.F.slot_list_reverse PySem.F.type_list_reverse sm_reverse (hf _ _ h2) (attrBase hc.1) hc.2
          · cases h1
    · cases h
  · cases h
theorem foldSet {it : Expr} {env : PySem.Env} (h : notSet it = true) : ∀ x, foldedSetIterable it env x = pure x := by
  intro x
  cases it <;> first | rfl | cases h
theorem isOneGen_eq {gs : List Comprehension} {tg it : Expr} {ifs : List Expr} (h : isOneGen gs = some (tg, it, ifs)) : gs = [⟨tg, it, ifs, 0⟩] := by
  unfold isOneGen at h
  split at h
  · split at h
    · rename_i q
      cases h
      rw [q]
    · cases h
  · cases h
/-- what a comprehension's pieces are -/
theorem trLc_ok (g : Good X C k) {tE : Ctx → Expr → Option DE} {tT : Ctx → Expr → Option DT} {tI : Ctx → Expr → Option DI} {tG : Ctx → Expr → Option (DG × List Nat)}
    (hE : ∀ (Y : Cx) (C' : Ctx) e A, Good Y C' k → tE C' e = some A → SndE Y e A) (hT : ∀ (Y : Cx) (C' : Ctx) e A, Good Y C' k → tT C' e = some A → SndT Y e A) (hI : ∀ (Y : Cx) (C' : Ctx) tg e A, Good Y C' k → tI C' e = some A → SndI Y tg e A) (hG : ∀ (Y : Cx) (C' : Ctx) e A js, Good Y C' k → tG C' e = some (A, js) → SndG Y e A js)
    {m : Bool} {scope : Scope} {elt tg it : Expr} {ifs : List Expr} {D : DE} (h : trLc C m scope tE tT tI tG elt tg it ifs = some D) :
    ∃ (own : List (Str × Nat)) (I : DI) (G : DG) (js : List Nat) (T : DT) (A : DE), D = dLc m (own.map (·.2)) I G T A ∧ BlkOk X.N X.env.scope scope own ∧ notSet it = true ∧ SndI X tg it I ∧ (Blk X scope fun Y => SndG Y tg G js) ∧ (∀ j ∈ js, j ∈ own.map (·.2)) ∧ Ifs X scope ifs T ∧ (Blk X scope fun Y => SndE Y elt A) := by
  unfold trLc at h
  split at h
  · rename_i hb
    rw [Bool.and_eq_true] at hb
    have hB : BlkOk X.N X.env.scope scope (ownOf C.N scope.names) := by
      rw [g.x.hN, g.x.hsc]; exact blkOk_by hb.1
    split at h
    · rename_i I G js A h1 h2 h3
      split at h
      · rename_i hj
        rw [List.all_eq_true] at hj
        have hjs : ∀ j ∈ js, j ∈ (ownOf C.N scope.names).map (·.2) := fun j z => List.contains_iff_mem.mp (hj j z)
        split at h
        · cases h
          exact ⟨_, I, G, js, tYes, A, rfl, hB, hb.2, hI X C tg it I g h1, fun s H B cl fp => hG _ _ tg G js (g.blk scope hB.kind s H B cl fp) h2, hjs, .nil, fun s H B cl fp => hE _ _ elt A (g.blk scope hB.kind s H B cl fp) h3⟩
        · rename_i c
          cases hc : tT (C.blk scope) c with
          | none => rw [hc] at h; cases h
          | some T =>
            rw [hc] at h; cases h
            exact ⟨_, I, G, js, T, A, rfl, hB, hb.2, hI X C tg it I g h1, fun s H B cl fp => hG _ _ tg G js (g.blk scope hB.kind s H B cl fp) h2, hjs, .one fun s H B cl fp => hT _ _ c T (g.blk scope hB.kind s H B cl fp) hc, fun s H B cl fp => hE _ _ elt A (g.blk scope hB.kind s H B cl fp) h3⟩
        · cases h
      · cases h
    · cases h
  · cases h
theorem isRng_eq {e : Expr} {as : List Expr} (h : isRng C e = some as) : ∃ p p2, e = .Call (.Name "range" p) as [] p2 ∧ C.isB "range" = true := by
  unfold isRng at h
  split at h
  · split at h
    · rename_i q
      cases h
      obtain ⟨rfl, q⟩ := q
      exact ⟨_, _, rfl, q⟩
    · cases h
  · cases h
theorem assignEach_cons {e : Expr} {es : List Expr} {env : PySem.Env} (h : notStar e = true) : assignEach (e :: es) env = (false, assign e env) :: assignEach es env := by
  cases e <;> first | rfl | cases h
theorem trTuple_ok {f : Expr → Option (DG × List Nat)} (hf : ∀ e A js, f e = some (A, js) → SndG X e A js) : ∀ {es : List Expr} {Gs : List DG} {js : List Nat}, trTuple f es = some (Gs, js) → SndGs X es (gList Gs) js ∧ (assignEach es X.env).length = Gs.length ∧ (assignEach es X.env).findIdx? (·.1) = none
  | [], _, _, h => by
    rw [trTuple] at h; cases h
    exact ⟨sgs_nil, rfl, rfl⟩
  | e :: r, Gs, js, h => by
    rw [trTuple] at h
    split at h
    · rename_i q
      split at h
      · rename_i G j1 Gs' j2 h1 h2
        cases h
        obtain ⟨k1, k2, k3⟩ := trTuple_ok hf h2
        refine ⟨sgs_cons (hf e G j1 h1) k1 ?_, ?_, ?_⟩
        · rw [assignEach_cons q]; rfl
        · rw [assignEach_cons q, List.length_cons, List.length_cons, k2]
        · rw [assignEach_cons q, List.findIdx?_cons, k3]; rfl
      · cases h
    · cases h
theorem tv (D : Option DE) {T : DT} (h : D.map tVal = some T) : ∃ A, D = some A ∧ T = tVal A := by
  cases D with
  | none => cases h
  | some A => cases h; exact ⟨A, rfl, rfl⟩
theorem asg_sub {o i : Expr} {pos : Pos} {env : PySem.Env} {v : Value} (h : notSlice i = true) : assign (.Subscript o i pos) env v = (do let ov ← holding [v] (eval o env); let iv ← holding [v, ov] (eval i env); standAt pos; holding [v, ov, iv] (setItem ov iv v); release [v, ov, iv] []) := by
  rw [assign]
  cases i <;> first | rfl | cases h
/-- all four at once -/
theorem tr_ok : ∀ n : Nat, (∀ (X : Cx) (C : Ctx) e A, Good X C k → trE n C e = some A → SndE X e A) ∧ (∀ (X : Cx) (C : Ctx) e A, Good X C k → trT n C e = some A → SndT X e A) ∧ (∀ (X : Cx) (C : Ctx) tg e A, Good X C k → trI n C e = some A → SndI X tg e A) ∧ (∀ (X : Cx) (C : Ctx) e A js, Good X C k → trG n C e = some (A, js) → SndG X e A js)
  | 0 => by
    refine ⟨fun X C e A g h => ?_, fun X C e A g h => ?_, fun X C tg e A g h => ?_, fun X C e A js g h => ?_⟩
    · exact absurd (show none = some _ from h) (by simp)
    · exact absurd (show none = some _ from h) (by simp)
    · exact absurd (show none = some _ from h) (by simp)
    · exact absurd (show none = some _ from h) (by simp)
  | n + 1 => by
    obtain ⟨iE, iT, iI, iG⟩ := tr_ok n
    refine ⟨fun X C e A g h => ?_, fun X C e A g h => ?_, fun X C tg e A g h => ?_, fun X C e A js g h => ?_⟩
    · have hf : ∀ e A, trE n C e = some A → SndE X e A := fun e A => iE X C e A g
      have h : trE1 (trE n) (trT n) (trI n) (trG n) C e = some _ := h
      unfold trE1 at h
      split at h
      · unfold trName at h
        split at h
        · rename_i hi
          split at h
          · rename_i hv
            rw [Bool.and_eq_true, Bool.and_eq_true, Bool.not_eq_true', Bool.not_eq_true'] at hv
            split at h
            · cases h
              exact snd_frz (by rw [g.x.hN]; exact ixOf_get hi) (g.vis hv.1.1) hv.1.2 hv.2
            · cases h
              exact snd_var (by rw [g.x.hN]; exact ixOf_get hi) (g.vis hv.1.1) hv.1.2 hv.2
          · cases h
        · cases h
      · unfold trConst at h
        split at h
        · cases h; exact snd_int
        · cases h; exact snd_bl
        · cases h; exact snd_str
        · cases h; exact snd_non
        · cases h
      · split at h
        · rename_i A B q h1 h2 h3
          cases h
          exact snd_bin (opSem_ok h3) (hf _ _ h1) (hf _ _ h2)
        · cases h
      · split at h
        · obtain ⟨A, h1, rfl⟩ := mapS h
          exact snd_un su_neg (hf _ _ h1)
        · obtain ⟨A, h1, rfl⟩ := mapS h
          exact snd_notV (hf _ _ h1)
        · cases h
      · split at h
        · exact trBools_and hf h
        · exact trBools_or hf h
      · exact (trCmp_ok g hf h).1
      · split at h
        · rename_i T A B h1 h2 h3
          cases h
          exact snd_ite (iT X C _ _ g h1) (hf _ _ h2) (hf _ _ h3)
        · cases h
      · obtain ⟨A, h1, rfl⟩ := mapS h
        exact snd_tup (trAs_ok hf h1)
      · obtain ⟨A, h1, rfl⟩ := mapS h
        exact snd_lst (trAs_ok hf h1)
      · exact trSub_ok hf h
      · split at h
        · split at h
          · exact trCallN_ok g hf h
          · exact trMeth_ok g hf h
          · cases h
        · cases h
      · split at h
        · rename_i tg it ifs hg
          cases isOneGen_eq hg
          obtain ⟨own, I, G, js, T, A, rfl, h1, h2, h3, h4, h5, h6, h7⟩ := trLc_ok g iE iT iI iG h
          exact snd_lc g.x.calm (by rw [g.x.hN]; exact g.x.nd) h1 (foldSet h2) h3 h4 h5 h6 h7
        · cases h
      · cases h
    · have hf : ∀ e A, trE n C e = some A → SndE X e A := fun e A => iE X C e A g
      have ht : ∀ e A, trT n C e = some A → SndT X e A := fun e A => iT X C e A g
      have h : trT1 (trE n) (trT n) C e = some _ := h
      unfold trT1 at h
      split at h
      · split at h
        · obtain ⟨A, h1, rfl⟩ := mapS h
          exact tst_not (ht _ _ h1)
        · cases h
      · split at h
        · exact (trTests_and ht h).t
        · exact (trTests_or ht h).t
      · obtain ⟨A, h1, rfl⟩ := mapS h
        exact (trCmp_ok g hf h1).2
      · obtain ⟨A, h1, rfl⟩ := mapS h
        exact tst_val (by intro _; rfl) (hf _ _ h1)
      · obtain ⟨A, h1, rfl⟩ := mapS h
        exact tst_val (by intro _; rfl) (hf _ _ h1)
      · obtain ⟨A, h1, rfl⟩ := mapS h
        exact tst_val (by intro _; rfl) (hf _ _ h1)
      · cases h
    · have hf : ∀ e A, trE n C e = some A → SndE X e A := fun e A => iE X C e A g
      have h : trI1 (trE n) C e = some _ := h
      unfold trI1 at h
      split at h
      · rename_i a hr
        split at h
        · rename_i hs
          obtain ⟨A, h1, rfl⟩ := mapS h
          obtain ⟨p, p2, rfl, hb⟩ := isRng_eq hr
          obtain ⟨g1, g2⟩ := g.bi hb
          exact si_rng1 g1 g2 (hf _ _ h1) (starEach_cons hs)
        · cases h
      · rename_i a b hr
        split at h
        · rename_i hs
          rw [Bool.and_eq_true] at hs
          split at h
          · rename_i A B h1 h2
            cases h
            obtain ⟨p, p2, rfl, hb⟩ := isRng_eq hr
            obtain ⟨g1, g2⟩ := g.bi hb
            exact si_rng2 g1 g2 (hf _ _ h1) (hf _ _ h2) (by rw [starEach_cons hs.1, starEach_cons hs.2]; rfl) (by rw [starEach_cons hs.2]; rfl)
          · cases h
        · cases h
      · cases h
      · split at h
        · rename_i a ha
          split at h
          · rename_i hs
            obtain ⟨A, h1, rfl⟩ := mapS h
            obtain ⟨p, p2, rfl, hb⟩ := isRev_eq ha
            obtain ⟨g1, g2⟩ := g.bi hb
            exact si_rev g1 g2 (starEach_cons hs) (hf _ _ h1)
          · cases h
        · obtain ⟨A, h1, rfl⟩ := mapS h
          exact si_seq (hf _ _ h1)
    · have hf : ∀ e A, trE n C e = some A → SndE X e A := fun e A => iE X C e A g
      have h : trG1 (trE n) (trG n) C e = some _ := h
      unfold trG1 at h
      split at h
      · split at h
        · rename_i hi
          split at h
          · rename_i hl
            cases h
            obtain ⟨l1, l2⟩ := g.loc hl
            exact sg_name (by rw [g.x.hN]; exact g.x.nd) (by rw [g.x.hN]; exact ixOf_get hi) l1 l2
          · cases h
        · cases h
      · split at h
        · rename_i Gs js' ht
          cases h
          obtain ⟨k1, k2, k3⟩ := trTuple_ok (fun e A js => iG X C e A js g) ht
          exact sg_tup g.x.calm k1 k2 k3 rfl
        · cases h
      · split at h
        · rename_i hs
          split at h
          · rename_i O I h1 h2
            cases h
            exact sg_sub (fun v => asg_sub hs) (hf _ _ h1) (hf _ _ h2)
          · cases h
        · cases h
      · cases h
theorem noSwap {e : Expr} {t : Option Expr} {l : Nat} {env : PySem.Env} (h : notComp e = true) : swapsWith e t l env = pure false := by
  cases e <;> first | rfl | cases h
theorem okAsg_ok {tgs : List Expr} {e : Expr} {env : PySem.Env} (h : okAsg tgs e = true) : ∃ tg, tgs = [tg] ∧ notStar tg = true ∧ (∀ l, swapsWithSole [tg] e l env = pure false) ∧ swappedStores [tg] e env = pure none := by
  unfold okAsg at h
  split at h
  · exact ⟨_, rfl, rfl, (fun l => by unfold swapsWithSole; exact noSwap h), by cases e <;> rfl⟩
  · rw [Bool.and_eq_true] at h
    refine ⟨_, rfl, rfl, (fun l => by unfold swapsWithSole; exact noSwap h.1), ?_⟩
    have h2 := h.2
    cases e <;> first | rfl | cases h2
  · exact ⟨_, rfl, rfl, (fun l => by unfold swapsWithSole; exact noSwap h), by cases e <;> rfl⟩
  · cases h
theorem isLcAsg_eq {pos : Pos} {tgs : List Expr} {e : Expr} {y : Str} {elt tg it : Expr} {ifs : List Expr} {scope : Scope} {p : Pos} (h : isLcAsg C pos tgs e = some (y, elt, tg, it, ifs, scope, p)) :
    ∃ py, tgs = [.Name y py] ∧ e = .ListComp elt [⟨tg, it, ifs, 0⟩] scope p ∧ (py.line == p.line) = true ∧ (scope.names.any fun (n, k) => n == y && (k == .local || k == .cell)) = false := by
  unfold isLcAsg at h
  split at h
  · split at h
    · rename_i hg
      split at h
      · rename_i q
        cases h
        rw [Bool.and_eq_true, Bool.not_eq_true'] at q
        rw [isOneGen_eq hg]
        exact ⟨_, rfl, rfl, q.1, q.2⟩
      · cases h
    · cases h
  · cases h
theorem trS_ok : ∀ n : Nat, (∀ (X : Cx) (C : Ctx) s A, Good X C k → trS n C s = some A → SndS X s A) ∧ (∀ (X : Cx) (C : Ctx) s A, Good X C k → trSs n C s = some A → SndSs X s A)
  | 0 => by
    refine ⟨fun X C e A g h => ?_, fun X C e A g h => ?_⟩
    · exact absurd (show none = some _ from h) (by simp)
    · exact absurd (show none = some _ from h) (by simp)
  | n + 1 => by
    obtain ⟨iE, iT, iI, iG⟩ := tr_ok (k := k) n
    obtain ⟨iS, iSs⟩ := trS_ok n
    refine ⟨fun X C s A g h => ?_, fun X C ss A g h => ?_⟩
    · have h : trS1 (trE n) (trT n) (trI n) (trG n) (trSs n) C s = some _ := h
      unfold trS1 at h
      split at h
      · split at h
        · cases h; exact ss_retN
        · obtain ⟨A, h1, rfl⟩ := mapS h
          exact ss_ret (iE X C _ _ g h1)
      · split at h
        · cases h; exact ss_doc
        · obtain ⟨A, h1, rfl⟩ := mapS h
          exact ss_expr (iE X C _ _ g h1) rfl
        · cases h
      · rename_i tgs e pos
        split at h
        · rename_i y elt tg it ifs scope p hl
          obtain ⟨py, rfl, rfl, q1, q2⟩ := isLcAsg_eq hl
          split at h
          · rename_i A i h1 hi
            split at h
            · rename_i hloc
              cases h
              have hyl : X.env.scope.names.lookup y = some .local := by
                rw [g.x.hsc]
                unfold isLocal at hloc
                split at hloc
                · assumption
                · cases hloc
              obtain ⟨own, I, G, js, T, A, rfl, h1, h2, h3, h4, h5, h6, h7⟩ := trLc_ok g iE iT iI iG h1
              refine ss_setLc g.x.calm (by rw [g.x.hN]; exact g.x.nd) (by rw [g.x.hN]; exact ixOf_get hi) hyl ?_ h1 (foldSet h2) h3 h4 h5 h6 h7
              exact sw_true g.kd hyl q1 q2
            · rename_i hnl
              split at h
              · rename_i hloc
                cases h
                have hyc : X.env.kindOf y = some .cell := by
                  show X.env.scope.names.lookup y = _
                  rw [g.x.hsc]
                  unfold Ctx.loc at hloc
                  unfold isLocal at hnl
                  split at hloc
                  · rename_i e
                    rw [e] at hnl
                    exact absurd rfl hnl
                  · assumption
                  · cases hloc
                obtain ⟨own, I, G, js, T, A, rfl, h1, h2, h3, h4, h5, h6, h7⟩ := trLc_ok g iE iT iI iG h1
                obtain ⟨l1, l2⟩ := g.loc hloc
                refine ss_asg (by rw [assignEach_cons rfl]; rfl) ?_ rfl (snd_lc g.x.calm (by rw [g.x.hN]; exact g.x.nd) h1 (foldSet h2) h3 h4 h5 h6 h7) (sg_name (by rw [g.x.hN]; exact g.x.nd) (by rw [g.x.hN]; exact ixOf_get hi) l1 l2)
                unfold swapsWithSole swapsWith
                show pure (X.env.blockKind == .function && X.env.kindOf y == some .local && _ && _) = pure false
                rw [hyc]
                show pure ((X.env.blockKind == .function && false) && _ && _) = pure false
                rw [Bool.and_false, Bool.false_and, Bool.false_and]
              · cases h
          · cases h
        · split at h
          · rename_i ho
            split at h
            · rename_i A G js h1 h2
              cases h
              obtain ⟨tg, rfl, o1, o2, o3⟩ := okAsg_ok (env := X.env) ho
              exact ss_asg (by rw [assignEach_cons o1]; rfl) (o2 _) o3 (iE X C _ _ g h1) (iG X C _ _ _ g h2)
            · cases h
          · cases h
      · split at h
        · rename_i T A B h1 h2 h3
          cases h
          exact ss_if (iT X C _ _ g h1) (iSs X C _ _ g h2) (iSs X C _ _ g h3)
        · cases h
      · split at h
        · split at h
          · rename_i hs
            split at h
            · rename_i I G js A h1 h2 h3
              cases h
              exact ss_for g.x.xe g.x.calm (iI X C _ _ _ g h1) (iG X C _ _ _ g h2) (iSs X C _ _ g h3) (foldSet hs)
            · cases h
          · cases h
        · cases h
      · split at h
        · split at h
          · rename_i T A h1 h2
            cases h
            exact ss_while g.x.xe (iT X C _ _ g h1) (iSs X C _ _ g h2)
          · cases h
        · cases h
      · cases h; exact ss_pass
      · cases h; exact ss_break
      · cases h; exact ss_cont
      · cases h
    · have h : trSs1 (trS n) (trSs n) C ss = some _ := h
      unfold trSs1 at h
      split at h
      · cases h; exact sss_nil
      · exact sss_one (iS X C _ _ g h)
      · split at h
        · rename_i A B h1 h2
          cases h
          exact sss_cons (iS X C _ _ g h1) (iSs X C _ _ g h2)
        · cases h
end
end DL

/-! DL7: defs of a text by their translation; the law's end. -/
namespace DL
open PySem PySem.Spec PyProof.Rows L2

section
variable (P : Program) (w : World) (K : PySem.W.Frag) (mg : Str → Option Value) (base : Heap)
/-- a def stands and keeps its promise -/
def Ent (k : Nat) (x : Str) (np : Nat) (S : FSem) : Prop := ∃ f fd ps, FnOk P w K mg base CX0 k f fd ps (spOf K np S) ∧ mg x = some (.ref f) ∧ PySem.W.keepIn K (.ref f) = true ∧ Binds K fd ps []
def GAll (k : Nat) (G : List (Str × Nat × FSem)) : Prop := ∀ x np S, G.lookup x = some (np, S) → Ent P w K mg base k x np S
end
section
variable {P : Program} {w : World} {K : PySem.W.Frag} {mg : Str → Option Value} {base : Heap}
theorem Ent.mono {j k : Nat} {x : Str} {np : Nat} {S : FSem} (h : Ent P w K mg base j x np S) (q : j ≤ k) : Ent P w K mg base k x np S := by
  obtain ⟨f, fd, ps, h1, h2⟩ := h
  exact ⟨f, fd, ps, h1.mono q, h2⟩
theorem GAll.nil {k : Nat} : GAll P w K mg base k [] := fun _ _ _ h => by cases h
theorem GAll.cons {k : Nat} {x : Str} {np : Nat} {S : FSem} {G : List (Str × Nat × FSem)} (h : Ent P w K mg base k x np S) (t : GAll P w K mg base k G) : GAll P w K mg base k ((x, np, S) :: G) := fun y m T q => by
  rw [List.lookup_cons] at q
  split at q
  · rename_i e
    cases q
    have e := eq_of_beq e
    subst e
    exact h
  · exact t y m T q
theorem GAll.mono {j k : Nat} {G : List (Str × Nat × FSem)} (h : GAll P w K mg base j G) (q : j ≤ k) : GAll P w K mg base k G := fun x np S z => (h x np S z).mono q
/-- a def, by its translation -/
theorem fn_tr {x qual : Str} {st : Stmt} {f : Addr} {fd : FuncData} {N ps : List Str} {k n : Nat} {D : DS} {G : List (Str × Nat × FSem)} {bs : List Str} {mu : List (Nat × Nat × Nat)} (F : Fun K x qual st f fd) (S : FnScope N ps (defScope st))
    (hG : GAll P w K mg base k G) (hb : ∀ n, bs.contains n = true → mg n = none) (ht : trSs n ⟨N, defScope st, fun _ => true, G, bs, mu⟩ (defBody st) = some D) :
    FnOk P w K mg base CX0 (k + 1) f fd ps (spOf K ps.length (runF N.length ps.length D)) := by
  refine fn_sound F S fun X h1 h2 h3 h4 h5 hx => ?_
  subst h1 h2 h3 h4 h5
  refine (trS_ok (k := k) n).2 X ⟨N, defScope st, fun _ => true, G, bs, mu⟩ _ D ⟨hx, hG, hb, ?_⟩ ht
  rw [hx.hsc]
  exact S.kind
/-- what is never asked -/
def noSem : FSem := fun _ _ => none
theorem fn_no {f : Addr} {fd : FuncData} {ps : List Str} : FnOk P w K mg base CX0 0 f fd ps (spOf K ps.length noSem) :=
  ⟨fun vs H Q E h => h.1, fun A outer s H args us vs Q E hr he hb hv h => by obtain ⟨_, F, ρ, st, ar, v, st', _, _, z, _⟩ := h; cases z⟩
/-- the empty store -/
def st0 : Sto := ⟨0, fun _ => none, fun _ _ => rfl⟩
def spLaw (K : PySem.W.Frag) : Sp := fun vs H Q _ => ∃ (a : Addr) (ns : List Int), vs = [.ref a] ∧ SqL K H a (ns.map V.int) ∧ ns.length ≤ 63 ∧ ∀ H', Q (.bl true) H'
theorem law_end {k : Nat} {f : Addr} {fd : FuncData} {ps : List Str} {S : FSem} (h : FnOk P w K mg base CX0 k f fd ps (spOf K 1 S)) (hl : ∀ ns : List Int, ns.length ≤ 63 → ∃ st, S [.ro (ns.map .int)] st0 = some (.bl true, st)) :
    FnOk P w K mg base CX0 k f fd ps (spLaw K) := by
  refine h.imp fun vs H Q E hs => ?_
  obtain ⟨a, ns, rfl, hS, hlen, q⟩ := hs
  obtain ⟨st, hst⟩ := hl ns hlen
  refine ⟨rfl, H, fun _ => 0, st0, [.ro (ns.map .int)], .bl true, st, ⟨fun _ _ z => z, fun l c z => (by cases z), fun l l' c c' z => (by cases z)⟩, .cons ?_ .nil, hst, fun F' ρ' w' H' p r => ?_⟩
  · rw [RelP]
    exact ⟨a, ns.map V.int, rfl, hS, RelPs.ints ns⟩
  · rw [RelP] at r
    rw [r]
    exact q H'
end
theorem walk {l : PySem.W.OpenLaw} {q : Program} {loose : List Str} {XP : (Str → Option Value) → Heap → Prop} {YP : World → Heap → Prop} {d : DefRec} {K : Params → PySem.W.Frag} {k : Nat} (hk : k ≤ 40) (hn : l.most = some 63) (hdf : d.params.defaults = [])
    (hY : ∀ (w : World) (h : Heap), YP w h → (K w.params).In h)
    (F : ∀ (w : World) (mg : Str → Option Value) (fa : Addr) (h : Heap), (K w.params).In h → h.Ns mainGlobals mg → mg d.name = some (.ref fa) →
      ∃ fd : FuncData, (∀ (s : Shared) (u : Value), BindsTo s fd ⟨[u], []⟩ [("script", u)]) ∧ ∀ base : Heap, (K w.params).In base → base.Ns mainGlobals mg → FnOk l.prog w (K w.params) mg base CX0 k fa fd ["script"] (spLaw (K w.params))) :
    PySem.W.WalkO q loose XP YP l.row.toRowW d [] (fun f vs => PySem.call f vs) :=
  L2.walk_of (n := 63) (k := k) (x := "script") (CX := fun _ => CX0) (sp := fun w => spLaw (K w.params)) hn (by decide) hdf (Room.mono (k := 40) ⟨rfl, by decide, by decide⟩ hk) hY F (fun _ _ a ns hl _ hS => ⟨a, ns, rfl, hS, hl, fun _ => rfl⟩) fun _ _ _ _ _ z => z
end DL

/-! DL8: how what a piece computes is shown. -/
namespace DL
open PySem L2

def wp {α : Type} (m : Option (α × Sto)) (Q : α → Sto → Prop) : Prop := ∃ a s, m = some (a, s) ∧ Q a s
section
variable {α β : Type} {m : Option (α × Sto)} {Q : α → Sto → Prop} {st : Sto} {env : Env}
theorem wp_ret {a : α} (q : Q a st) : wp (some (a, st)) Q := ⟨a, st, rfl, q⟩
theorem wp_eq {a : α} {s : Sto} (h : m = some (a, s)) (q : Q a s) : wp m Q := ⟨a, s, h, q⟩
theorem eq_of_wp {a : α} (h : wp m fun b s => b = a ∧ s = st) : m = some (a, st) := by
  obtain ⟨b, s, e, rfl, rfl⟩ := h
  exact e
theorem wp_mono {R : α → Sto → Prop} (h : wp m R) (k : ∀ a s, R a s → Q a s) : wp m Q := by
  obtain ⟨a, s, e, r⟩ := h
  exact ⟨a, s, e, k a s r⟩
theorem wp_mb {f : β → Sto → Option (α × Sto)} {n : Option (β × Sto)} (h : wp n fun b s => wp (f b s) Q) : wp (mb n f) Q := by
  obtain ⟨b, s, rfl, h⟩ := h
  exact h
end
theorem wp_pos {α : Type} {c : Prop} [Decidable c] {A B : Option (α × Sto)} {Q : α → Sto → Prop} (h : c) (q : wp A Q) : wp (if c then A else B) Q := by rw [if_pos h]; exact q
theorem wp_neg {α : Type} {c : Prop} [Decidable c] {A B : Option (α × Sto)} {Q : α → Sto → Prop} (h : ¬ c) (q : wp B Q) : wp (if c then A else B) Q := by rw [if_neg h]; exact q
theorem wp_if {α : Type} {c : Prop} [Decidable c] {A B : Option (α × Sto)} {Q : α → Sto → Prop} (h : c → wp A Q) (q : ¬ c → wp B Q) : wp (if c then A else B) Q := by
  by_cases e : c
  · rw [if_pos e]; exact h e
  · rw [if_neg e]; exact q e
theorem wp_mul {a b : Int} {st : Sto} {Q : PV → Sto → Prop} (h : okMul a b = true) (q : Q (.int (a * b)) st) : wp (opMul (.int a) (.int b) st) Q := by
  show wp (if okMul a b then some (PV.int (a * b), st) else none) Q
  exact wp_pos h (wp_ret q)
theorem wp_mod {a b : Int} {st : Sto} {Q : PV → Sto → Prop} (h : okMod b = true) (q : Q (.int (a % b)) st) : wp (opMod (.int a) (.int b) st) Q := by
  show wp (if okMod b then some (PV.int (a % b), st) else none) Q
  exact wp_pos h (wp_ret q)
theorem wp_div {a b : Int} {st : Sto} {Q : PV → Sto → Prop} (h : okDiv b = true) (q : Q (.int (a / b)) st) : wp (opDiv (.int a) (.int b) st) Q := by
  show wp (if okDiv b then some (PV.int (a / b), st) else none) Q
  exact wp_pos h (wp_ret q)
theorem wp_pow {a b : Int} {st : Sto} {Q : PV → Sto → Prop} (h : okPow a b = true) (q : Q (.int (a ^ b.toNat)) st) : wp (opPow (.int a) (.int b) st) Q := by
  show wp (if okPow a b then some (PV.int (a ^ b.toNat), st) else none) Q
  exact wp_pos h (wp_ret q)
/-- what is at a place -/
theorem loc_len {p : Nat} {st : Sto} {xs : List PV} (h : st.cs p = some (.lst xs)) : bLen [.loc p] st = some (.int xs.length, st) := by
  show (match (match st.cs p with | some (.lst xs) => some xs | _ => none) with | some xs => some (PV.int xs.length, st) | none => none) = _
  rw [h]
theorem loc_ix {p : Nat} {st : Sto} {xs : List PV} {i : Int} {v : PV} (h : st.cs p = some (.lst xs)) (hi : atI xs i = some v) : opIx (.loc p) (.int i) st = some (v, st) := by
  show (match (match st.cs p with | some (.lst xs) => some xs | _ => none) with | some xs => (atI xs i).map fun v => (v, st) | none => none) = _
  rw [h]
  show (atI xs i).map (fun v => (v, st)) = _
  rw [hi]; rfl
theorem seq_len {v : PV} {st : Sto} {xs : List PV} (h : seqOf st v = some xs) : bLen [v] st = some (.int xs.length, st) := by
  cases v with
  | loc l =>
    show (match seqOf st (.loc l) with | some xs => some (PV.int xs.length, st) | none => none) = _
    rw [h]
  | tup ys => cases h; rfl
  | lst ys => cases h; rfl
  | ro ys => cases h; rfl
  | _ => cases h
theorem seq_ix {v : PV} {st : Sto} {xs : List PV} {i : Int} {x : PV} (h : seqOf st v = some xs) (hi : atI xs i = some x) : opIx v (.int i) st = some (x, st) := by
  show (match seqOf st v with | some xs => (atI xs i).map fun v => (v, st) | none => none) = _
  rw [h]
  show (atI xs i).map (fun v => (v, st)) = _
  rw [hi]; rfl
theorem loc_asL {p : Nat} {st : Sto} {xs : List PV} (h : st.cs p = some (.lst xs)) : asL (.loc p) st = some (p, st) := by
  show (match st.cs p with | some (.lst _) => some (p, st) | _ => none) = _
  rw [h]
theorem loc_pop {p : Nat} {st : Sto} {xs : List PV} {v : PV} (h : st.cs p = some (.lst xs)) (hv : xs[xs.length - 1]? = some v) : mPop p [] st = some (v, st.set p (.lst xs.dropLast)) := by
  show (match st.cs p with | some (.lst xs) => (match xs[xs.length - 1]? with | some y => some (y, st.set p (.lst xs.dropLast)) | none => none) | _ => none) = _
  rw [h]
  show (match xs[xs.length - 1]? with | some y => some (y, st.set p (.lst xs.dropLast)) | none => none) = _
  rw [hv]
theorem loc_append {p : Nat} {st : Sto} {xs : List PV} {v : PV} (h : st.cs p = some (.lst xs)) (hz : xs.length < sizeLine) (hv : v.lb 0 = true) : mAppend p [v] st = some (.non, st.set p (.lst (xs ++ [v]))) := by
  show (match st.cs p with | some (.lst xs) => (if xs.length < sizeLine && v.lb 0 then some (PV.non, st.set p (.lst (xs ++ [v]))) else none) | _ => none) = _
  rw [h]
  show (if xs.length < sizeLine && v.lb 0 then some (PV.non, st.set p (.lst (xs ++ [v]))) else none) = _
  rw [hv, decide_eq_true hz]; rfl
theorem loc_reverse {p : Nat} {st : Sto} {xs : List PV} (h : st.cs p = some (.lst xs)) : mReverse p [] st = some (.non, st.set p (.lst xs.reverse)) := by
  show (match st.cs p with | some (.lst xs) => some (PV.non, st.set p (.lst xs.reverse)) | _ => none) = _
  rw [h]
theorem loc_set {p : Nat} {st : Sto} {xs : List PV} {i : Int} {j : Nat} {v : PV} (h : st.cs p = some (.lst xs)) (hj : ixN xs.length i = some j) (hv : v.lb 0 = true) : setL (.loc p) (.int i) v st = some (st.set p (.lst (xs.set j v))) := by
  show (match st.cs p with | some (.lst xs) => (match ixN xs.length i with | some j => (if v.lb 0 then some (st.set p (.lst (xs.set j v))) else none) | none => none) | _ => none) = _
  rw [h]
  show (match ixN xs.length i with | some j => (if v.lb 0 then some (st.set p (.lst (xs.set j v))) else none) | none => none) = _
  rw [hj]
  show (if v.lb 0 then some (st.set p (.lst (xs.set j v))) else none) = _
  rw [hv, if_pos rfl]
/-- a loop -/
theorem forGo_wp {its : Its} {g : DG} {d : DS} (I : Nat → Env → Sto → Prop) (Q : Fl → Sto → Prop)
    (hs : ∀ (k : Nat) x env st, its.items[k]? = some x → I k env st → its.ok st ∧ wp (g x env st) fun e1 s1 => wp (d e1 s1) fun f s2 => match f with
      | .nx e => I (k + 1) e s2
      | .ct e => I (k + 1) e s2
      | .bk e => Q (.nx e) s2
      | .rt v => Q (.rt v) s2) (hd : ∀ env st, I its.items.length env st → its.ok st ∧ Q (.nx env) st) {env : Env} {st : Sto} (h0 : I 0 env st) : wp (forGo its g d its.items env st) Q := by
  have key : ∀ (m k : Nat) (env : Env) (st : Sto), k + m = its.items.length → I k env st → wp (forGo its g d (its.items.drop k) env st) Q := by
    intro m
    induction m with
    | zero =>
      intro k env st e h
      have e : k = its.items.length := by omega
      subst e
      obtain ⟨ok, q⟩ := hd env st h
      rw [List.drop_length, forGo, if_pos ok]
      exact wp_ret q
    | succ m ih =>
      intro k env st e h
      have hk : k < its.items.length := by omega
      obtain ⟨ok, t⟩ := hs k its.items[k] env st (List.getElem?_eq_getElem hk) h
      rw [List.drop_eq_getElem_cons hk, forGo, if_pos ok]
      refine wp_mb (wp_mono t fun e1 s1 t => wp_mb (wp_mono t fun f s2 t => ?_))
      cases f with
      | nx e => exact ih (k + 1) e s2 (by omega) t
      | ct e => exact ih (k + 1) e s2 (by omega) t
      | bk e => exact wp_ret t
      | rt v => exact wp_ret t
  have := key its.items.length 0 env st (by omega) h0
  rw [List.drop_zero] at this
  exact this
/-- a comprehension -/
theorem lcGo_wp {its : Its} {g : DG} {t : DT} {e : DE} {env : Env} (I : Nat → List PV → Sto → Prop) (Q : List PV → Sto → Prop)
    (hs : ∀ (k : Nat) x done st, its.items[k]? = some x → I k done st → its.ok st ∧ wp (g x env st) fun e1 s1 => wp (t e1 s1) fun b s2 => if b then wp (e e1 s2) fun y s3 => I (k + 1) (done ++ [y]) s3 else I (k + 1) done s2)
    (hd : ∀ done st, I its.items.length done st → its.ok st ∧ Q done st) {st : Sto} (h0 : I 0 [] st) : wp (lcGo its g t e env its.items st) Q := by
  have key : ∀ (m k : Nat) (done : List PV) (st : Sto), k + m = its.items.length → I k done st → wp (lcGo its g t e env (its.items.drop k) st) fun ys s => Q (done ++ ys) s := by
    intro m
    induction m with
    | zero =>
      intro k done st e h
      have e : k = its.items.length := by omega
      subst e
      obtain ⟨ok, q⟩ := hd done st h
      rw [List.drop_length, lcGo, if_pos ok]
      exact wp_ret (by rw [List.append_nil]; exact q)
    | succ m ih =>
      intro k done st e h
      have hk : k < its.items.length := by omega
      obtain ⟨ok, t⟩ := hs k its.items[k] done st (List.getElem?_eq_getElem hk) h
      rw [List.drop_eq_getElem_cons hk, lcGo, if_pos ok]
      refine wp_mb (wp_mono t fun e1 s1 t => wp_mb (wp_mono t fun b s2 t => ?_))
      cases b with
      | false =>
        rw [if_neg (by decide)] at t ⊢
        exact ih (k + 1) done s2 (by omega) t
      | true =>
        rw [if_pos rfl] at t ⊢
        refine wp_mb (wp_mono t fun y s3 t => wp_mb (wp_mono (ih (k + 1) _ s3 (by omega) t) fun ys s4 q => wp_ret ?_))
        rw [List.append_assoc] at q
        exact q
  have := key its.items.length 0 [] st (by omega) h0
  rw [List.drop_zero] at this
  exact wp_mono this fun ys s q => q
/-- a comprehension that changes nothing and has no test -/
theorem lcGo_map {its : Its} {g : DG} {e : DE} {env : Env} {st : Sto} (f : PV → PV) (ok : its.ok st) (h : ∀ x ∈ its.items, ∃ e1, g x env st = some (e1, st) ∧ e e1 st = some (f x, st)) : lcGo its g tYes e env its.items st = some (its.items.map f, st) := by
  have key : ∀ xs : List PV, (∀ x ∈ xs, x ∈ its.items) → lcGo its g tYes e env xs st = some (xs.map f, st) := by
    intro xs
    induction xs with
    | nil => intro _; rw [lcGo, if_pos ok]; rfl
    | cons x r ih =>
      intro hx
      obtain ⟨e1, h1, h2⟩ := h x (hx x List.mem_cons_self)
      rw [lcGo, if_pos ok, h1, mb_some]
      show mb (some (true, st)) _ = _
      rw [mb_some, if_pos rfl, h2, mb_some, ih fun y hy => hx y (List.mem_cons_of_mem _ hy), mb_some]
      rfl
  exact key its.items fun _ z => z
/-- .. with a test -/
theorem lcGo_filter {its : Its} {g : DG} {t : DT} {e : DE} {env : Env} {st : Sto} (p : PV → Bool) (f : PV → PV) (ok : its.ok st) (h : ∀ x ∈ its.items, ∃ e1, g x env st = some (e1, st) ∧ t e1 st = some (p x, st) ∧ (p x = true → e e1 st = some (f x, st))) : lcGo its g t e env its.items st = some ((its.items.filter p).map f, st) := by
  have key : ∀ xs : List PV, (∀ x ∈ xs, x ∈ its.items) → lcGo its g t e env xs st = some ((xs.filter p).map f, st) := by
    intro xs
    induction xs with
    | nil => intro _; rw [lcGo, if_pos ok]; rfl
    | cons x r ih =>
      intro hx
      obtain ⟨e1, h1, h2, h3⟩ := h x (hx x List.mem_cons_self)
      rw [lcGo, if_pos ok, h1, mb_some, h2, mb_some, List.filter_cons]
      cases hp : p x with
      | true =>
        rw [if_pos rfl, if_pos rfl, h3 hp, mb_some, ih fun y hy => hx y (List.mem_cons_of_mem _ hy), mb_some]
        rfl
      | false =>
        rw [if_neg (by decide), if_neg (by decide)]
        exact ih fun y hy => hx y (List.mem_cons_of_mem _ hy)
  exact key its.items fun _ z => z
theorem Its.ok_none {xs : List PV} {st : Sto} : (Its.mk xs none).ok st := trivial
theorem Its.ok_some {xs : List PV} {st : Sto} {l : Nat} {c : Cell} (h : st.cs l = some c) : (Its.mk xs (some (l, c))).ok st := h

/-- .. over a range, item by item -/
theorem lc_rng {n : Nat} {g : DG} {e : DE} {env : Env} {st : Sto} (vs : List PV) (hn : vs.length = n) (h : ∀ (k : Nat), k < n → ∃ e1 v, g (.int ((0 : Int) + (k : Int))) env st = some (e1, st) ∧ vs[k]? = some v ∧ e e1 st = some (v, st)) : lcGo ⟨rng 0 (n : Int), none⟩ g tYes e env (rng 0 (n : Int)) st = some (vs, st) := by
  have e0 : rng 0 (n : Int) = (List.range n).map fun (k : Nat) => PV.int ((0 : Int) + (k : Int)) := by
    unfold rng
    rw [Int.sub_zero, Int.toNat_natCast]
  let f : PV → PV := fun x => match x with
    | .int i => (vs[i.toNat]?).getD .non
    | _ => .non
  have := lcGo_map (its := ⟨rng 0 (n : Int), none⟩) (g := g) (e := e) (env := env) (st := st) f trivial (fun x hx => by
    have hx : x ∈ rng 0 (n : Int) := hx
    rw [e0, List.mem_map] at hx
    obtain ⟨k, hk, rfl⟩ := hx
    obtain ⟨e1, v, h1, h2, h3⟩ := h k (List.mem_range.mp hk)
    refine ⟨e1, h1, ?_⟩
    rw [h3]
    show some (v, st) = some ((vs[((0 : Int) + (k : Int)).toNat]?).getD .non, st)
    rw [Int.zero_add, Int.toNat_natCast, h2]
    rfl)
  have e1 : (rng 0 (n : Int)).map f = vs := by
    rw [e0, List.map_map]
    apply List.ext_getElem?
    intro k
    rw [List.getElem?_map]
    by_cases hk : k < n
    · rw [List.getElem?_range hk]
      show some ((vs[((0 : Int) + (k : Int)).toNat]?).getD .non) = _
      rw [Int.zero_add, Int.toNat_natCast, List.getElem?_eq_getElem (by omega)]
      rfl
    · rw [List.getElem?_eq_none (by rw [List.length_range]; omega), List.getElem?_eq_none (by omega)]
      rfl
  rw [e1] at this
  exact this
/-- .. over items -/
theorem lc_items {its : Its} {g : DG} {e : DE} {env : Env} {st : Sto} (vs : List PV) (ok : its.ok st) (hn : vs.length = its.items.length) (h : ∀ (k : Nat) x, its.items[k]? = some x → ∃ e1 v, g x env st = some (e1, st) ∧ vs[k]? = some v ∧ e e1 st = some (v, st)) : lcGo its g tYes e env its.items st = some (vs, st) := by
  obtain ⟨ys, s, h1, h2, h3⟩ := lcGo_wp (its := its) (g := g) (t := tYes) (e := e) (env := env) (fun k done s => s = st ∧ done = vs.take k) (fun ys s => s = st ∧ ys = vs) (fun k x done s hx hI => by
    obtain ⟨rfl, rfl⟩ := hI
    obtain ⟨e1, v, h1, h2, h3⟩ := h k x hx
    refine ⟨ok, wp_eq h1 (wp_eq rfl ?_)⟩
    rw [if_pos rfl]
    exact wp_eq h3 ⟨rfl, by rw [List.take_add_one, h2]; rfl⟩) (fun done s hI => by
    obtain ⟨rfl, rfl⟩ := hI
    exact ⟨ok, rfl, by rw [← hn, List.take_length]⟩) (st := st) ⟨rfl, rfl⟩
  rw [h1, h2, h3]

/-! ### values of one kind -/
def tT (a : List Int) : PV := .tup (a.map .int)
theorem tT_lb {n : Nat} {a : List Int} : (tT a).lb n = true := by
  unfold tT
  rw [PV.lb]
  exact lbs_map (fun i => lb_int n i) a
theorem res_of {b : Nat} {cs : Nat → Option Cell} {v : PV} (h : v.lb b = true) : v.res b cs = some v := PV.res_lb h
/-- a def hands back a value without places -/
theorem fin_val {b : Nat} {v : PV} {st : Sto} (h : v.lb b = true) : fin b v st = some (v, st.restr b) := by
  unfold fin
  split
  · rename_i l
    rw [PV.lb, decide_eq_true_eq] at h
    rw [if_pos h]
  · rw [PV.res_lb h]; rfl
theorem fin_loc {b l : Nat} {st : Sto} {c : Cell} (hb : b ≤ l) (h : st.cs l = some c) : fin b (.loc l) st = some (.loc b, (st.restr b).alloc c) := by
  show (if l < b then some (PV.loc l, st.restr b) else (st.cs l).map fun c => (PV.loc b, (st.restr b).alloc c)) = _
  rw [if_neg (by omega), h]; rfl
theorem settle_val {b : Nat} {v : PV} {st : Sto} (h : v.lb b = true) : settle b v st = some (v, st.restr b) := by
  unfold settle
  rw [PV.res_lb h]; rfl
/-- behind a call: a value without places is kept, the rest dropped -/
theorem wp_set {b : Nat} {v : PV} {s : Sto} {X : Option (PV × Sto)} {Q : PV → Sto → Prop} (hb : b = s.nxt) (h : v.lb b = true) (q : Q v s) : wp (if false = true then X else settle b v s) Q := by
  subst hb
  rw [if_neg (by decide), settle_val h, Sto.restr_self]
  exact wp_ret q
theorem wp_runF {n np : Nat} {d : DS} {args : List PV} {st : Sto} {Q : PV → Sto → Prop} (hl : args.length = np)
    (h : wp (d (args.map some ++ List.replicate (n - args.length) none) st) fun f s => match f with
      | .rt v => wp (fin st.nxt v s) Q
      | .nx _ => wp (fin st.nxt .non s) Q
      | _ => False) : wp (runF n np d args st) Q := by
  obtain ⟨f, s, e, h⟩ := h
  unfold runF
  rw [if_pos hl, e]
  cases f with
  | rt v => exact h
  | nx e => exact h
  | bk e => exact h.elim
  | ct e => exact h.elim
/-- .. and changes nothing -/
theorem runF_eq {n np : Nat} {d : DS} {args : List PV} {st : Sto} {v : PV} (hl : args.length = np) (hv : v.lb st.nxt = true)
    (h : wp (d (args.map some ++ List.replicate (n - args.length) none) st) fun f s => f = .rt v ∧ s = st) : runF n np d args st = some (v, st) := by
  obtain ⟨f, s, e, rfl, rfl⟩ := h
  unfold runF
  rw [if_pos hl, e]
  show fin s.nxt v s = _
  rw [fin_val hv, Sto.restr_self]
end DL

namespace DL
open PySem PySem.Spec PyProof.Rows L2
/-! ### the text by places -/
def top (i : Nat) : Stmt := PySem.Challenge.pw_deltastead_k01_frontiers.main.body.getD i (.Pass ⟨0, 0, 0, 0⟩)

/-! leq : slots 0 a, 1 b, 2 i -/
abbrev s_leq : Stmt := top 1
noncomputable def D_leq : DS :=
    (sSeq (sIf (tVal (dBin (cmpEq true) (dApp (bLen) (aCons (dVar 0) aNil)) (dApp (bLen) (aCons (dVar 1) aNil))))
    (sRet (dCst (.bl false)))
    sPass)
    (sSeq (sFor (iRng1 (dApp (bLen) (aCons (dVar 0) aNil))) (gName 2)
    (sIf (tVal (dBin (cmpI fun i j => decide (j < i)) (dBin opIx (dVar 0) (dVar 2)) (dBin opIx (dVar 1) (dVar 2))))
      (sRet (dCst (.bl false)))
      sPass))
    (sRet (dCst (.bl true)))))
@[irreducible] noncomputable def f_leq : FSem := runF 3 2 D_leq

/-! covers : slots 0 times, 1 time, 2 other -/
abbrev s_covers : Stmt := top 2
noncomputable def D_covers : DS :=
    (sSeq (sFor (iSeq (dVar 0)) (gName 2)
    (sIf (tVal (dCall f_leq false (aCons (dVar 2) (aCons (dVar 1) aNil))))
      (sRet (dCst (.bl true)))
      sPass))
    (sRet (dCst (.bl false))))
@[irreducible] noncomputable def f_covers : FSem := runF 3 2 D_covers

/-! under : slots 0 times, 1 time, 2 other -/
abbrev s_under : Stmt := top 3
noncomputable def D_under : DS :=
    (sSeq (sFor (iSeq (dVar 0)) (gName 2)
    (sIf (tVal (dCall f_leq false (aCons (dVar 1) (aCons (dVar 2) aNil))))
      (sRet (dCst (.bl true)))
      sPass))
    (sRet (dCst (.bl false))))
@[irreducible] noncomputable def f_under : FSem := runF 3 2 D_under

/-! lowest : slots 0 times, 1 found, 2 time -/
abbrev s_lowest : Stmt := top 4
noncomputable def D_lowest : DS :=
    (sSeq (sAsg (dLst true aNil) (gName 1))
    (sSeq (sFor (iSeq (dApp (bSortedSet false) (aCons (dVar 0) aNil))) (gName 2)
    (sIf (tNot (tVal (dCall f_covers false (aCons (dVar 1) (aCons (dVar 2) aNil)))))
      (sExpr (dMetL mAppend (dVar 1) (aCons (dVar 2) aNil)))
      sPass))
    (sRet (dVar 1))))
@[irreducible] noncomputable def f_lowest : FSem := runF 3 1 D_lowest

/-! highest : slots 0 times, 1 found, 2 time -/
abbrev s_highest : Stmt := top 5
noncomputable def D_highest : DS :=
    (sSeq (sAsg (dLst true aNil) (gName 1))
    (sSeq (sFor (iRev (dApp (bSortedSet false) (aCons (dVar 0) aNil))) (gName 2)
    (sIf (tNot (tVal (dCall f_under false (aCons (dVar 1) (aCons (dVar 2) aNil)))))
      (sExpr (dMetL mAppend (dVar 1) (aCons (dVar 2) aNil)))
      sPass))
    (sRet (dApp (bSorted true) (aCons (dVar 1) aNil)))))
@[irreducible] noncomputable def f_highest : FSem := runF 3 1 D_highest

/-! is_frontier : slots 0 times, 1 time -/
abbrev s_is_frontier : Stmt := top 6
noncomputable def D_is_frontier : DS :=
    (sSeq (sFor (iSeq (dVar 0)) (gName 1)
    (sIf (tVal (dBin (cmpEq true) (dApp (bLen) (aCons (dVar 1) aNil)) (dApp (bLen) (aCons (dBin opIx (dVar 0) (dCst (.int 0))) aNil))))
      (sRet (dCst (.bl false)))
      sPass))
    (sRet (dBin (cmpEq false) (dApp (bList false) (aCons (dVar 0) aNil)) (dCall f_lowest false (aCons (dVar 0) aNil)))))
@[irreducible] noncomputable def f_is_frontier : FSem := runF 2 1 D_is_frontier

/-! _law_mix : slots 0 number, 1 k -/
abbrev s_law_mix : Stmt := top 8
noncomputable def D_law_mix : DS :=
    (sSeq (sAsg (dBin opMod (dApp (bInt) (aCons (dBin (opAdd false) (dBin (opAdd false) (dBin opMul (dVar 0) (dCst (.int 48271))) (dBin opMul (dVar 1) (dCst (.int 69621)))) (dCst (.int 11))) aNil)) (dCst (.int 2147483647))) (gName 0))
    (sSeq (sAsg (dBin opMod (dApp (bInt) (aCons (dBin (opAdd false) (dBin (opAdd false) (dBin opMul (dVar 0) (dVar 0)) (dBin opMul (dVar 1) (dCst (.int 7919)))) (dCst (.int 5))) aNil)) (dCst (.int 2147483629))) (gName 0))
    (sRet (dBin opMod (dApp (bInt) (aCons (dBin (opAdd false) (dBin (opAdd false) (dBin opMul (dVar 0) (dVar 0)) (dBin opMul (dVar 1) (dCst (.int 40692)))) (dCst (.int 3))) aNil)) (dCst (.int 2147483587))))))
@[irreducible] noncomputable def f_law_mix : FSem := runF 2 2 D_law_mix

/-! _law_pool : slots 0 script, 1 pool, 2 state, 3 k, 4 cell, 5 turn -/
abbrev s_law_pool : Stmt := top 9
noncomputable def D_law_pool : DS :=
    (sSeq (sAsg (dLst true aNil) (gName 1))
    (sSeq (sAsg (dApp (bLen) (aCons (dVar 0) aNil)) (gName 2))
    (sSeq (sFor (iRng1 (dApp (bMin) (aCons (dApp (bLen) (aCons (dVar 0) aNil)) (aCons (dCst (.int 63)) aNil)))) (gName 3)
    (sSeq (sAsg (dApp (bAbs) (aCons (dApp (bInt) (aCons (dBin opIx (dVar 0) (dVar 3)) aNil)) aNil)) (gName 4))
      (sSeq (sAsg (dCall f_law_mix false (aCons (dBin (opAdd false) (dVar 2) (dBin opMod (dApp (bInt) (aCons (dVar 4) aNil)) (dCst (.int 1000000007)))) (aCons (dVar 3) aNil))) (gName 2))
      (sIf (tVal (dBin (cmpI fun i j => decide (j ≤ i)) (dVar 4) (dBin opPow (dCst (.int 10)) (dCst (.int 18)))))
      (sFor (iRng1 (dCst (.int 60))) (gName 5)
        (sIf (tVal (dBin (cmpI fun i j => decide (j < i)) (dVar 4) (dCst (.int 0))))
          (sSeq (sExpr (dMetL mAppend (dVar 1) (aCons (dBin opMod (dApp (bInt) (aCons (dVar 4) aNil)) (dCst (.int 1000))) aNil)))
            (sAsg (dBin opDiv (dVar 4) (dCst (.int 1000))) (gName 4)))
          sPass))
      (sFor (iRng1 (dCst (.int 3))) (gName 5)
        (sExpr (dMetL mAppend (dVar 1) (aCons (dCall f_law_mix false (aCons (dBin (opAdd false) (dVar 4) (dBin opMul (dCst (.int 65537)) (dVar 3))) (aCons (dVar 5) aNil))) aNil))))))))
    (sSeq (sExpr (dMetL mReverse (dVar 1) aNil))
    (sRet (dBin (opAdd true) (dLst false (aCons (dVar 2) (aCons (dCst (.int 0)) aNil))) (dVar 1)))))))
@[irreducible] noncomputable def f_law_pool : FSem := runF 6 1 D_law_pool

/-! _law_draw : slots 0 pool, 1 limit -/
abbrev s_law_draw : Stmt := top 10
noncomputable def D_law_draw : DS :=
    (sSeq (sIf (tVal (dBin (cmpI fun i j => decide (j < i)) (dApp (bLen) (aCons (dVar 0) aNil)) (dCst (.int 2))))
    (sRet (dBin opMod (dApp (bInt) (aCons (dMetL mPop (dVar 0) aNil) aNil)) (dVar 1)))
    sPass)
    (sSeq (sAsg (dBin (opAdd false) (dBin opIx (dVar 0) (dCst (.int 1))) (dCst (.int 1))) (gSub (dVar 0) (dCst (.int 1))))
    (sRet (dBin opMod (dApp (bInt) (aCons (dBin opDiv (dCall f_law_mix false (aCons (dBin (opAdd false) (dBin opIx (dVar 0) (dCst (.int 0))) (dBin opMul (dCst (.int 31)) (dBin opIx (dVar 0) (dCst (.int 1))))) (aCons (dBin opIx (dVar 0) (dCst (.int 1))) aNil))) (dCst (.int 3))) aNil)) (dVar 1)))))
@[irreducible] noncomputable def f_law_draw : FSem := runF 2 2 D_law_draw

/-! _law_pick : slots 0 pool, 1 rows -/
abbrev s_law_pick : Stmt := top 11
noncomputable def D_law_pick : DS :=
    (sRet (dBin opIx (dVar 1) (dCall f_law_draw false (aCons (dVar 0) (aCons (dApp (bLen) (aCons (dVar 1) aNil)) aNil)))))
@[irreducible] noncomputable def f_law_pick : FSem := runF 2 2 D_law_pick

/-! _law_whole : slots 0 number -/
abbrev s_law_whole : Stmt := top 12
noncomputable def D_law_whole : DS :=
    (sRet (dAnd (dUn (bIsi .int) (dVar 0)) (dUn opNot (dUn (bIsi .bool) (dVar 0)))))
@[irreducible] noncomputable def f_law_whole : FSem := runF 1 1 D_law_whole

/-! _law_plain : slots 0 key, 1 part -/
abbrev s_law_plain : Stmt := top 14
noncomputable def D_law_plain (self : FSem) : DS :=
    (sSeq (sIf (tVal (dUn (bIsi .tuple) (dVar 0)))
    (sRet (dBin (cmpIn true) (dCst (.bl false)) (dLc false [1] (iSeq (dVar 0)) (gName 1) tYes (dCall self false (aCons (dVar 1) aNil)))))
    sPass)
    (sRet (dOr (dUn (bIsi .str) (dVar 0)) (dCall f_law_whole false (aCons (dVar 0) aNil)))))
noncomputable def r_law_plain : Nat → FSem
  | 0 => noSem
  | n + 1 => runF 2 1 (D_law_plain (r_law_plain n))
@[irreducible] noncomputable def f_law_plain (n : Nat) : FSem := r_law_plain n

/-! _law_same : slots 0 told, 1 due, 2 key, 3 k -/
abbrev s_law_same : Stmt := top 13
noncomputable def D_law_same (self : FSem) : DS :=
    (sSeq (sIf (tVal (dUn (cmpIsN false) (dVar 1)))
    (sRet (dUn (cmpIsN false) (dVar 0)))
    sPass)
    (sSeq (sIf (tVal (dUn (bIsi .bool) (dVar 1)))
    (sRet (dAnd (dUn (bIsi .bool) (dVar 0)) (dBin (cmpEq false) (dVar 0) (dVar 1))))
    sPass)
    (sSeq (sIf (tVal (dUn (bIsi .int) (dVar 1)))
    (sRet (dAnd (dCall f_law_whole false (aCons (dVar 0) aNil)) (dBin (cmpEq false) (dVar 0) (dVar 1))))
    sPass)
    (sSeq (sIf (tVal (dUn (bIsi .str) (dVar 1)))
    (sRet (dAnd (dUn (bIsi .str) (dVar 0)) (dBin (cmpEq false) (dVar 0) (dVar 1))))
    sPass)
    (sSeq (sIf (tVal (dUn (bIsi .dict) (dVar 1)))
    (sSeq (sIf (tOr (tNot (tVal (dUn (bIsi .dict) (dVar 0)))) (tVal (dBin (cmpEq true) (dApp (bLen) (aCons (dVar 0) aNil)) (dApp (bLen) (aCons (dVar 1) aNil)))))
      (sRet (dCst (.bl false)))
      sPass)
      (sSeq (sFor (iSeq (dVar 0)) (gName 2)
      (sIf (tOr (tVal (dBin (cmpIn true) (dVar 2) (dVar 1))) (tOr (tNot (tVal (dCall self false (aCons (dBin opIx (dVar 0) (dVar 2)) (aCons (dBin opIx (dVar 1) (dVar 2)) aNil))))) (tNot (tVal (dCall (f_law_plain 6) false (aCons (dVar 2) aNil))))))
        (sRet (dCst (.bl false)))
        sPass))
      (sRet (dCst (.bl true)))))
    sPass)
    (sSeq (sIf (tOr (tVal (dBin (cmpEq true) (dUn (bIsi .list) (dVar 1)) (dUn (bIsi .list) (dVar 0)))) (tVal (dBin (cmpEq true) (dUn (bIsi .tuple) (dVar 1)) (dUn (bIsi .tuple) (dVar 0)))))
    (sRet (dCst (.bl false)))
    sPass)
    (sSeq (sIf (tVal (dBin (cmpEq true) (dApp (bLen) (aCons (dVar 0) aNil)) (dApp (bLen) (aCons (dVar 1) aNil))))
    (sRet (dCst (.bl false)))
    sPass)
    (sSeq (sFor (iRng1 (dApp (bLen) (aCons (dVar 1) aNil))) (gName 3)
    (sIf (tNot (tVal (dCall self false (aCons (dBin opIx (dVar 0) (dVar 3)) (aCons (dBin opIx (dVar 1) (dVar 3)) aNil)))))
      (sRet (dCst (.bl false)))
      sPass))
    (sRet (dCst (.bl true)))))))))))
noncomputable def r_law_same : Nat → FSem
  | 0 => noSem
  | n + 1 => runF 4 2 (D_law_same (r_law_same n))
@[irreducible] noncomputable def f_law_same (n : Nat) : FSem := r_law_same n

/-! _law_leq : slots 0 one, 1 two, 2 k -/
abbrev s_law_leq : Stmt := top 15
noncomputable def D_law_leq : DS :=
    (sRet (dBin (cmpIn true) (dCst (.bl false)) (dLc false [2] (iRng1 (dApp (bLen) (aCons (dVar 0) aNil))) (gName 2) tYes (dBin (cmpI fun i j => decide (i ≤ j)) (dBin opIx (dVar 0) (dVar 2)) (dBin opIx (dVar 1) (dVar 2))))))
@[irreducible] noncomputable def f_law_leq : FSem := runF 3 2 D_law_leq

/-! _law_moment : slots 0 pool, 1 size, 2 span, 3 k -/
abbrev s_law_moment : Stmt := top 16
noncomputable def D_law_moment : DS :=
    (sRet (dApp (bTuple) (aCons (dLc false [3] (iRng1 (dVar 1)) (gName 3) tYes (dCall f_law_draw false (aCons (dVar 0) (aCons (dVar 2) aNil)))) aNil)))
@[irreducible] noncomputable def f_law_moment : FSem := runF 4 3 D_law_moment

/-! _law_near : slots 0 pool, 1 time, 2 c -/
abbrev s_law_near : Stmt := top 17
noncomputable def D_law_near : DS :=
    (sRet (dApp (bTuple) (aCons (dLc false [2] (iSeq (dVar 1)) (gName 2) tYes (dApp (bMax) (aCons (dCst (.int 0)) (aCons (dApp (bMin) (aCons (dCst (.int 99)) (aCons (dBin (opAdd false) (dVar 2) (dCall f_law_pick false (aCons (dVar 0) (aCons (dLst false (aCons (dCst (.int 0)) (aCons (dCst (.int 1)) (aCons (dUn opNeg (dCst (.int 1))) (aCons (dCst (.int 0)) (aCons (dCst (.int 2)) (aCons (dUn opNeg (dCst (.int 3))) aNil))))))) aNil)))) aNil))) aNil)))) aNil)))
@[irreducible] noncomputable def f_law_near : FSem := runF 3 2 D_law_near

/-! _law_listed : slots 0 pool, 1 size, 2 span, 3 many, 4 times, 5 k, 6 way, 7 time, 8 at -/
abbrev s_law_listed : Stmt := top 18
noncomputable def D_law_listed : DS :=
    (sSeq (sAsg (dCall f_law_draw false (aCons (dVar 0) (aCons (dCst (.int 13)) aNil))) (gName 3))
    (sSeq (sIf (tVal (dBin (cmpEq false) (dCall f_law_draw false (aCons (dVar 0) (aCons (dCst (.int 16)) aNil))) (dCst (.int 15))))
    (sAsg (dBin (opAdd false) (dCst (.int 13)) (dCall f_law_draw false (aCons (dVar 0) (aCons (dCst (.int 27)) aNil)))) (gName 3))
    sPass)
    (sSeq (sAsg (dLst true aNil) (gName 4))
    (sSeq (sFor (iRng1 (dVar 3)) (gName 5)
    (sSeq (sAsg (dCall f_law_draw false (aCons (dVar 0) (aCons (dCst (.int 6)) aNil))) (gName 6))
      (sIf (tOr (tVal (dBin (cmpEq false) (dVar 5) (dCst (.int 0)))) (tVal (dBin (cmpI fun i j => decide (j < i)) (dVar 6) (dCst (.int 3)))))
      (sExpr (dMetL mAppend (dVar 4) (aCons (dCall f_law_moment false (aCons (dVar 0) (aCons (dVar 1) (aCons (dVar 2) aNil)))) aNil)))
      (sSeq (sAsg (dCall f_law_pick false (aCons (dVar 0) (aCons (dVar 4) aNil))) (gName 7))
        (sSeq (sAsg (dCall f_law_draw false (aCons (dVar 0) (aCons (dVar 1) aNil))) (gName 8))
        (sExpr (dMetL mAppend (dVar 4) (aCons (dBin opIx (dLst false (aCons (dVar 7) (aCons (dCall f_law_near false (aCons (dVar 0) (aCons (dVar 7) aNil))) (aCons (dBin (opAdd false) (dSl false (dVar 7) (oSome (dVar 8)) oNone) (dSl false (dVar 7) oNone (oSome (dVar 8)))) (aCons (dBin (opAdd false) (dSl false (dVar 7) (oSome (dVar 8)) oNone) (dSl false (dVar 7) oNone (oSome (dVar 8)))) aNil))))) (dVar 6)) aNil))))))))
    (sRet (dVar 4))))))
@[irreducible] noncomputable def f_law_listed : FSem := runF 9 3 D_law_listed

/-! _law_ends : slots 0 times, 1 side, 2 found, 3 time, 4 pairs, 5 other, 6 pair -/
abbrev s_law_ends : Stmt := top 19
noncomputable def D_law_ends : DS :=
    (sSeq (sAsg (dLst true aNil) (gName 2))
    (sSeq (sFor (iSeq (dApp (bSorted false) (aCons (dVar 0) aNil))) (gName 3)
    (sSeq (sAsg (dLc false [5] (iSeq (dVar 0)) (gName 5) (tVal (dBin (cmpEq true) (dVar 5) (dVar 3))) (dBin opIx (dLst false (aCons (dTup (aCons (dVar 5) (aCons (dVar 3) aNil))) (aCons (dTup (aCons (dVar 3) (aCons (dVar 5) aNil))) aNil))) (dVar 1))) (gName 4))
      (sIf (tAnd (tVal (dBin (cmpIn true) (dCst (.bl true)) (dLc false [6] (iSeq (dVar 4)) (gName 6) tYes (dCall f_law_leq false (aCons (dBin opIx (dVar 6) (dCst (.int 0))) (aCons (dBin opIx (dVar 6) (dCst (.int 1))) aNil)))))) (tVal (dBin (cmpIn true) (dVar 3) (dVar 2))))
      (sExpr (dMetL mAppend (dVar 2) (aCons (dVar 3) aNil)))
      sPass)))
    (sRet (dVar 2))))
@[irreducible] noncomputable def f_law_ends : FSem := runF 7 2 D_law_ends

/-! _law_ask : slots 0 side, 1 rows -/
abbrev s_law_ask : Stmt := top 20
noncomputable def D_law_ask : DS :=
    (sSeq (sIf (tVal (dBin (cmpEq false) (dVar 0) (dCst (.int 0))))
    (sRet (dCall f_lowest true (aCons (dVar 1) aNil)))
    sPass)
    (sRet (dCall f_highest true (aCons (dVar 1) aNil))))
@[irreducible] noncomputable def f_law_ask : FSem := runF 2 2 D_law_ask

/-! _law_ends_right : slots 0 times, 1 side, 2 extra, 3 due, 4 pair, 5 handed, 6 told -/
abbrev s_law_ends_right : Stmt := top 21
noncomputable def D_law_ends_right : DS :=
    (sSeq (sAsg (dCall f_law_ends false (aCons (dVar 0) (aCons (dVar 1) aNil))) (gName 3))
    (sSeq (sFor (iSeq (dLst false (aCons (dTup (aCons (dVar 0) (aCons (dVar 3) aNil))) (aCons (dTup (aCons (dVar 3) (aCons (dVar 3) aNil))) (aCons (dTup (aCons (dLst false aNil) (aCons (dLst false aNil) aNil))) aNil))))) (gName 4)
    (sSeq (sAsg (dApp (bList false) (aCons (dBin opIx (dVar 4) (dCst (.int 0))) aNil)) (gName 5))
      (sSeq (sAsg (dCall f_law_ask true (aCons (dVar 1) (aCons (dVar 5) aNil))) (gName 6))
      (sSeq (sIf (tNot (tVal (dCall (f_law_same 6) false (aCons (dVar 6) (aCons (dBin opIx (dVar 4) (dCst (.int 1))) aNil)))))
      (sRet (dCst (.bl false)))
      sPass)
      (sSeq (sExpr (dMetL mAppend (dVar 6) (aCons (dVar 2) aNil)))
      (sIf (tOr (tNot (tVal (dCall (f_law_same 6) false (aCons (dVar 5) (aCons (dBin opIx (dVar 4) (dCst (.int 0))) aNil))))) (tNot (tVal (dCall (f_law_same 6) false (aCons (dCall f_law_ask false (aCons (dVar 1) (aCons (dVar 5) aNil))) (aCons (dBin opIx (dVar 4) (dCst (.int 1))) aNil))))))
      (sRet (dCst (.bl false)))
      sPass))))))
    (sRet (dCst (.bl true)))))
@[irreducible] noncomputable def f_law_ends_right : FSem := runF 7 3 D_law_ends_right

/-! _law_met_right : slots 0 times, 1 probe, 2 other, 3 above, 4 time, 5 below, 6 handed -/
abbrev s_law_met_right : Stmt := top 22
noncomputable def D_law_met_right : DS :=
    (sSeq (sAsg (dBin (cmpIn false) (dCst (.bl true)) (dLc false [4] (iSeq (dVar 0)) (gName 4) tYes (dCall f_law_leq false (aCons (dVar 4) (aCons (dVar 1) aNil))))) (gName 3))
    (sSeq (sAsg (dBin (cmpIn false) (dCst (.bl true)) (dLc false [4] (iSeq (dVar 0)) (gName 4) tYes (dCall f_law_leq false (aCons (dVar 1) (aCons (dVar 4) aNil))))) (gName 5))
    (sSeq (sAsg (dApp (bList false) (aCons (dVar 0) aNil)) (gName 6))
    (sSeq (sIf (tOr (tNot (tVal (dCall (f_law_same 6) false (aCons (dCall f_covers false (aCons (dVar 6) (aCons (dVar 1) aNil))) (aCons (dVar 3) aNil))))) (tNot (tVal (dCall (f_law_same 6) false (aCons (dCall f_under false (aCons (dVar 6) (aCons (dVar 1) aNil))) (aCons (dVar 5) aNil))))))
    (sRet (dCst (.bl false)))
    sPass)
    (sSeq (sIf (tNot (tVal (dCall (f_law_same 6) false (aCons (dCall f_covers false (aCons (dCall f_lowest false (aCons (dApp (bList false) (aCons (dVar 0) aNil)) aNil)) (aCons (dVar 1) aNil))) (aCons (dVar 3) aNil)))))
    (sRet (dCst (.bl false)))
    sPass)
    (sSeq (sIf (tNot (tVal (dCall (f_law_same 6) false (aCons (dCall f_under false (aCons (dCall f_highest false (aCons (dApp (bList false) (aCons (dVar 0) aNil)) aNil)) (aCons (dVar 1) aNil))) (aCons (dVar 5) aNil)))))
    (sRet (dCst (.bl false)))
    sPass)
    (sSeq (sIf (tOr (tNot (tVal (dCall (f_law_same 6) false (aCons (dCall f_covers false (aCons (dVar 6) (aCons (dVar 2) aNil))) (aCons (dCst (.bl false)) aNil))))) (tNot (tVal (dCall (f_law_same 6) false (aCons (dCall f_under false (aCons (dVar 6) (aCons (dVar 2) aNil))) (aCons (dCst (.bl false)) aNil))))))
    (sRet (dCst (.bl false)))
    sPass)
    (sSeq (sIf (tOr (tNot (tVal (dCall (f_law_same 6) false (aCons (dCall f_covers false (aCons (dLst false aNil) (aCons (dVar 1) aNil))) (aCons (dCst (.bl false)) aNil))))) (tNot (tVal (dCall (f_law_same 6) false (aCons (dCall f_under false (aCons (dLst false aNil) (aCons (dVar 1) aNil))) (aCons (dCst (.bl false)) aNil))))))
    (sRet (dCst (.bl false)))
    sPass)
    (sRet (dCall (f_law_same 6) false (aCons (dVar 6) (aCons (dVar 0) aNil))))))))))))
@[irreducible] noncomputable def f_law_met_right : FSem := runF 7 3 D_law_met_right

/-! _law_front : slots 0 times, 1 k, 2 one -/
abbrev s_law_front : Stmt := top 23
noncomputable def D_law_front : DS :=
    (sSeq (sFor (iRng1 (dApp (bLen) (aCons (dVar 0) aNil))) (gName 1)
    (sFor (iSeq (dSl false (dVar 0) oNone (oSome (dVar 1)))) (gName 2)
      (sIf (tOr (tNot (tVal (dBin cmpLt (dVar 2) (dBin opIx (dVar 0) (dVar 1))))) (tOr (tVal (dCall f_law_leq false (aCons (dVar 2) (aCons (dBin opIx (dVar 0) (dVar 1)) aNil)))) (tVal (dCall f_law_leq false (aCons (dBin opIx (dVar 0) (dVar 1)) (aCons (dVar 2) aNil))))))
        (sRet (dCst (.bl false)))
        sPass)))
    (sRet (dCst (.bl true))))
@[irreducible] noncomputable def f_law_front : FSem := runF 3 1 D_law_front

/-! _law_lists : slots 0 pool, 1 front, 2 times, 3 once, 4 time, 5 rows, 6 turn, 7 at, 8 k, 9 moved -/
abbrev s_law_lists : Stmt := top 24
noncomputable def D_law_lists : DS :=
    (sSeq (sAsg (dLst true aNil) (gName 3))
    (sSeq (sFor (iSeq (dApp (bSorted false) (aCons (dVar 2) aNil))) (gName 4)
    (sIf (tVal (dBin (cmpIn true) (dVar 4) (dVar 3)))
      (sExpr (dMetL mAppend (dVar 3) (aCons (dVar 4) aNil)))
      sPass))
    (sSeq (sAsg (dLst true (aCons (dLst false aNil) (aCons (dVar 2) (aCons (dApp (bSorted false) (aCons (dVar 2) aNil)) (aCons (dFrz 3) (aCons (dVar 1) aNil)))))) (gName 5))
    (sSeq (sFor (iRng1 (dCst (.int 3))) (gName 6)
    (sIf (tVal (dBin (cmpI fun i j => decide (j < i)) (dApp (bLen) (aCons (dVar 1) aNil)) (dCst (.int 0))))
      (sSeq (sAsg (dCall f_law_draw false (aCons (dVar 0) (aCons (dApp (bLen) (aCons (dVar 1) aNil)) aNil))) (gName 7))
        (sSeq (sAsg (dBin opMul (dCall f_law_draw false (aCons (dVar 0) (aCons (dApp (bLen) (aCons (dBin opIx (dVar 1) (dVar 7)) aNil)) aNil))) (dApp (bInt) (aCons (dBin (cmpI fun i j => decide (j < i)) (dVar 6) (dCst (.int 0))) aNil))) (gName 8))
        (sSeq (sAsg (dBin opSub (dApp (bMin) (aCons (dCst (.int 99)) (aCons (dBin (opAdd false) (dBin opIx (dBin opIx (dVar 1) (dVar 7)) (dVar 8)) (dCall f_law_pick false (aCons (dVar 0) (aCons (dLst false (aCons (dCst (.int 1)) (aCons (dCst (.int 2)) (aCons (dCst (.int 7)) (aCons (dCst (.int 40)) aNil))))) aNil)))) aNil))) (dApp (bInt) (aCons (dBin (cmpEq false) (dBin opIx (dBin opIx (dVar 1) (dVar 7)) (dVar 8)) (dCst (.int 99))) aNil))) (gName 9))
        (sSeq (sExpr (dMetL mAppend (dVar 5) (aCons (dApp (bSorted false) (aCons (dBin (opAdd false) (dVar 1) (dLst false (aCons (dBin (opAdd false) (dBin (opAdd false) (dSl false (dBin opIx (dVar 1) (dVar 7)) oNone (oSome (dVar 8))) (dTup (aCons (dVar 9) aNil))) (dSl false (dBin opIx (dVar 1) (dVar 7)) (oSome (dBin (opAdd false) (dVar 8) (dCst (.int 1)))) oNone)) aNil))) aNil)) aNil)))
        (sSeq (sExpr (dMetL mAppend (dVar 5) (aCons (dBin (opAdd false) (dSl false (dVar 1) oNone (oSome (dBin (opAdd false) (dVar 7) (dCst (.int 1))))) (dSl false (dVar 1) (oSome (dVar 7)) oNone)) aNil)))
        (sExpr (dMetL mAppend (dVar 5) (aCons (dBin (opAdd false) (dSl false (dVar 1) oNone (oSome (dVar 7))) (dSl false (dVar 1) (oSome (dBin (opAdd false) (dVar 7) (dCst (.int 1)))) oNone)) aNil))))))))
      sPass))
    (sSeq (sIf (tVal (dBin (cmpI fun i j => decide (j < i)) (dApp (bLen) (aCons (dVar 1) aNil)) (dCst (.int 1))))
    (sSeq (sAsg (dCall f_law_draw false (aCons (dVar 0) (aCons (dBin opSub (dApp (bLen) (aCons (dVar 1) aNil)) (dCst (.int 1))) aNil))) (gName 7))
      (sExpr (dMetL mAppend (dVar 5) (aCons (dBin (opAdd false) (dBin (opAdd false) (dSl false (dVar 1) oNone (oSome (dVar 7))) (dLst false (aCons (dBin opIx (dVar 1) (dBin (opAdd false) (dVar 7) (dCst (.int 1)))) (aCons (dBin opIx (dVar 1) (dVar 7)) aNil)))) (dSl false (dVar 1) (oSome (dBin (opAdd false) (dVar 7) (dCst (.int 2)))) oNone)) aNil))))
    sPass)
    (sRet (dVar 5)))))))
@[irreducible] noncomputable def f_law_lists : FSem := runF 10 3 D_law_lists

/-! law : slots 0 script, 1 pool, 2 size, 3 span, 4 times, 5 probes, 6 k, 7 longer, 8 other, 9 close, 10 fuller, 11 rows, 12 side, 13 probe, 14 handed -/
abbrev s_law : Stmt := top 25
noncomputable def D_law : DS :=
    (sSeq (sAsg (dCall f_law_pool true (aCons (dVar 0) aNil)) (gName 1))
    (sSeq (sAsg (dCall f_law_pick false (aCons (dVar 1) (aCons (dLst false (aCons (dCst (.int 3)) (aCons (dCst (.int 1)) (aCons (dCst (.int 2)) (aCons (dCst (.int 4)) (aCons (dCst (.int 3)) (aCons (dCst (.int 4)) aNil))))))) aNil))) (gName 2))
    (sSeq (sAsg (dCall f_law_pick false (aCons (dVar 1) (aCons (dLst false (aCons (dCst (.int 4)) (aCons (dCst (.int 3)) (aCons (dCst (.int 2)) (aCons (dCst (.int 10)) (aCons (dCst (.int 100)) aNil)))))) aNil))) (gName 3))
    (sSeq (sAsg (dCall f_law_listed false (aCons (dVar 1) (aCons (dVar 2) (aCons (dVar 3) aNil)))) (gName 4))
    (sSeq (sAsg (dLst true (aCons (dCall f_law_moment false (aCons (dVar 1) (aCons (dVar 2) (aCons (dVar 3) aNil)))) aNil)) (gName 5))
    (sSeq (sFor (iRng1 (dCst (.int 4))) (gName 6)
    (sExpr (dMetL mAppend (dVar 5) (aCons (dCall f_law_near false (aCons (dVar 1) (aCons (dCall f_law_pick false (aCons (dVar 1) (aCons (dBin (opAdd false) (dVar 4) (dVar 5)) aNil))) aNil))) aNil))))
    (sSeq (sAsg (dBin (opAdd false) (dBin (opAdd false) (dBin (opAdd false) (dBin opIx (dVar 5) (dCst (.int 0))) (dBin opIx (dVar 5) (dCst (.int 0)))) (dBin opIx (dVar 5) (dCst (.int 0)))) (dBin opIx (dVar 5) (dCst (.int 0)))) (gName 7))
    (sSeq (sAsg (dSl false (dVar 7) oNone (oSome (dBin (opAdd false) (dCst (.int 1)) (dBin opMod (dApp (bInt) (aCons (dBin (opAdd false) (dVar 2) (dCall f_law_draw false (aCons (dVar 1) (aCons (dCst (.int 3)) aNil)))) aNil)) (dCst (.int 4)))))) (gName 8))
    (sSeq (sAsg (dBin (opAdd false) (dTup (aCons (dBin (opAdd false) (dBin opIx (dBin opIx (dVar 5) (dCst (.int 0))) (dCst (.int 0))) (dBin opIx (dLst false (aCons (dCst (.int 1)) (aCons (dUn opNeg (dCst (.int 1))) aNil))) (dApp (bInt) (aCons (dBin (cmpEq false) (dBin opIx (dBin opIx (dVar 5) (dCst (.int 0))) (dCst (.int 0))) (dCst (.int 99))) aNil)))) aNil)) (dSl false (dBin opIx (dVar 5) (dCst (.int 0))) (oSome (dCst (.int 1))) oNone)) (gName 9))
    (sSeq (sAsg (dBin (opAdd false) (dVar 4) (dLst false (aCons (dBin opIx (dVar 5) (dCst (.int 0))) (aCons (dVar 9) (aCons (dBin opIx (dVar 5) (dCst (.int 0))) aNil))))) (gName 10))
    (sSeq (sFor (iSeq (dLst false (aCons (dVar 4) (aCons (dVar 10) aNil)))) (gName 11)
    (sSeq (sFor (iRng1 (dCst (.int 2))) (gName 12)
      (sIf (tNot (tVal (dCall f_law_ends_right false (aCons (dVar 11) (aCons (dVar 12) (aCons (dVar 9) aNil))))))
        (sRet (dCst (.bl false)))
        sPass))
      (sFor (iSeq (dVar 5)) (gName 13)
      (sIf (tNot (tVal (dCall f_law_met_right false (aCons (dVar 11) (aCons (dVar 13) (aCons (dVar 8) aNil))))))
        (sRet (dCst (.bl false)))
        sPass))))
    (sSeq (sFor (iSeq (dBin (opAdd false) (dLst false (aCons (dVar 4) aNil)) (dCall f_law_lists false (aCons (dVar 1) (aCons (dCall f_law_ends false (aCons (dVar 10) (aCons (dCall f_law_draw false (aCons (dVar 1) (aCons (dCst (.int 2)) aNil))) aNil))) (aCons (dVar 10) aNil)))))) (gName 11)
    (sSeq (sAsg (dApp (bList false) (aCons (dVar 11) aNil)) (gName 14))
      (sIf (tOr (tNot (tVal (dCall (f_law_same 6) false (aCons (dCall f_is_frontier false (aCons (dVar 14) aNil)) (aCons (dCall f_law_front false (aCons (dVar 11) aNil)) aNil))))) (tNot (tVal (dCall (f_law_same 6) false (aCons (dVar 14) (aCons (dVar 11) aNil))))))
      (sRet (dCst (.bl false)))
      sPass)))
    (sRet (dCst (.bl true)))))))))))))))
@[irreducible] noncomputable def f_law : FSem := runF 15 1 D_law
abbrev bs : List Str := ["len", "abs", "int", "max", "min", "tuple", "list", "sorted", "isinstance", "range", "bool", "str", "dict", "set", "reversed"]
def BsOk (mg : Str → Option Value) : Prop := ∀ n, bs.contains n = true → mg n = none
section
variable {P : Program} {w : World} {K : PySem.W.Frag} {mg : Str → Option Value} {base : Heap}
theorem sc_leq : FnScope ["a", "b", "i"] ["a", "b"] (defScope s_leq) := ⟨rfl, rfl, rfl, by decide +kernel, rfl, by decide +kernel, by decide +kernel⟩
theorem t_leq : trSs 60 ⟨["a", "b", "i"], defScope s_leq, fun _ => true, [], bs, []⟩ (defBody s_leq) = some D_leq := by kernel_rfl
theorem e_leq {fa : Addr} {fd : FuncData} (F : Fun K "leq" "leq" s_leq fa fd) (hm : mg "leq" = some (.ref fa)) (B : BsOk mg)  : Ent P w K mg base 1 "leq" 2 f_leq := by
  unfold f_leq
  exact ⟨fa, fd, ["a", "b"], fn_tr (k := 0) F sc_leq GAll.nil B t_leq, hm, F.kp, F.binds (ps := ["a", "b"]) fun _ _ _ _ _ _ us hl => match us, hl with | [_, _], _ => rfl⟩
theorem sc_covers : FnScope ["times", "time", "other"] ["times", "time"] (defScope s_covers) := ⟨rfl, rfl, rfl, by decide +kernel, rfl, by decide +kernel, by decide +kernel⟩
theorem t_covers : trSs 60 ⟨["times", "time", "other"], defScope s_covers, fun _ => true, [("leq", 2, f_leq)], bs, []⟩ (defBody s_covers) = some D_covers := by kernel_rfl
theorem e_covers {fa : Addr} {fd : FuncData} (F : Fun K "covers" "covers" s_covers fa fd) (hm : mg "covers" = some (.ref fa)) (B : BsOk mg) (h0 : Ent P w K mg base 1 "leq" 2 f_leq) : Ent P w K mg base 2 "covers" 2 f_covers := by
  unfold f_covers
  exact ⟨fa, fd, ["times", "time"], fn_tr (k := 1) F sc_covers (GAll.cons (h0.mono (by decide)) GAll.nil) B t_covers, hm, F.kp, F.binds (ps := ["times", "time"]) fun _ _ _ _ _ _ us hl => match us, hl with | [_, _], _ => rfl⟩
theorem sc_under : FnScope ["times", "time", "other"] ["times", "time"] (defScope s_under) := ⟨rfl, rfl, rfl, by decide +kernel, rfl, by decide +kernel, by decide +kernel⟩
theorem t_under : trSs 60 ⟨["times", "time", "other"], defScope s_under, fun _ => true, [("leq", 2, f_leq)], bs, []⟩ (defBody s_under) = some D_under := by kernel_rfl
theorem e_under {fa : Addr} {fd : FuncData} (F : Fun K "under" "under" s_under fa fd) (hm : mg "under" = some (.ref fa)) (B : BsOk mg) (h0 : Ent P w K mg base 1 "leq" 2 f_leq) : Ent P w K mg base 2 "under" 2 f_under := by
  unfold f_under
  exact ⟨fa, fd, ["times", "time"], fn_tr (k := 1) F sc_under (GAll.cons (h0.mono (by decide)) GAll.nil) B t_under, hm, F.kp, F.binds (ps := ["times", "time"]) fun _ _ _ _ _ _ us hl => match us, hl with | [_, _], _ => rfl⟩
theorem sc_lowest : FnScope ["times", "found", "time"] ["times"] (defScope s_lowest) := ⟨rfl, rfl, rfl, by decide +kernel, rfl, by decide +kernel, by decide +kernel⟩
theorem t_lowest : trSs 60 ⟨["times", "found", "time"], defScope s_lowest, fun _ => true, [("covers", 2, f_covers)], bs, [(20, 12, 14)]⟩ (defBody s_lowest) = some D_lowest := by kernel_rfl
theorem e_lowest {fa : Addr} {fd : FuncData} (F : Fun K "lowest" "lowest" s_lowest fa fd) (hm : mg "lowest" = some (.ref fa)) (B : BsOk mg) (h0 : Ent P w K mg base 2 "covers" 2 f_covers) : Ent P w K mg base 3 "lowest" 1 f_lowest := by
  unfold f_lowest
  exact ⟨fa, fd, ["times"], fn_tr (k := 2) F sc_lowest (GAll.cons (h0.mono (by decide)) GAll.nil) B t_lowest, hm, F.kp, F.binds (ps := ["times"]) fun _ _ _ _ _ _ us hl => match us, hl with | [_], _ => rfl⟩
theorem sc_highest : FnScope ["times", "found", "time"] ["times"] (defScope s_highest) := ⟨rfl, rfl, rfl, by decide +kernel, rfl, by decide +kernel, by decide +kernel⟩
theorem t_highest : trSs 60 ⟨["times", "found", "time"], defScope s_highest, fun _ => true, [("under", 2, f_under)], bs, [(26, 12, 14), (30, 11, 24)]⟩ (defBody s_highest) = some D_highest := by kernel_rfl
theorem e_highest {fa : Addr} {fd : FuncData} (F : Fun K "highest" "highest" s_highest fa fd) (hm : mg "highest" = some (.ref fa)) (B : BsOk mg) (h0 : Ent P w K mg base 2 "under" 2 f_under) : Ent P w K mg base 3 "highest" 1 f_highest := by
  unfold f_highest
  exact ⟨fa, fd, ["times"], fn_tr (k := 2) F sc_highest (GAll.cons (h0.mono (by decide)) GAll.nil) B t_highest, hm, F.kp, F.binds (ps := ["times"]) fun _ _ _ _ _ _ us hl => match us, hl with | [_], _ => rfl⟩
theorem sc_is_frontier : FnScope ["times", "time"] ["times"] (defScope s_is_frontier) := ⟨rfl, rfl, rfl, by decide +kernel, rfl, by decide +kernel, by decide +kernel⟩
theorem t_is_frontier : trSs 60 ⟨["times", "time"], defScope s_is_frontier, fun _ => true, [("lowest", 1, f_lowest)], bs, []⟩ (defBody s_is_frontier) = some D_is_frontier := by kernel_rfl
theorem e_is_frontier {fa : Addr} {fd : FuncData} (F : Fun K "is_frontier" "is_frontier" s_is_frontier fa fd) (hm : mg "is_frontier" = some (.ref fa)) (B : BsOk mg) (h0 : Ent P w K mg base 3 "lowest" 1 f_lowest) : Ent P w K mg base 4 "is_frontier" 1 f_is_frontier := by
  unfold f_is_frontier
  exact ⟨fa, fd, ["times"], fn_tr (k := 3) F sc_is_frontier (GAll.cons (h0.mono (by decide)) GAll.nil) B t_is_frontier, hm, F.kp, F.binds (ps := ["times"]) fun _ _ _ _ _ _ us hl => match us, hl with | [_], _ => rfl⟩
theorem sc_law_mix : FnScope ["number", "k"] ["number", "k"] (defScope s_law_mix) := ⟨rfl, rfl, rfl, by decide +kernel, rfl, by decide +kernel, by decide +kernel⟩
theorem t_law_mix : trSs 60 ⟨["number", "k"], defScope s_law_mix, fun _ => true, [], bs, []⟩ (defBody s_law_mix) = some D_law_mix := by kernel_rfl
theorem e_law_mix {fa : Addr} {fd : FuncData} (F : Fun K "_law_mix" "_law_mix" s_law_mix fa fd) (hm : mg "_law_mix" = some (.ref fa)) (B : BsOk mg)  : Ent P w K mg base 1 "_law_mix" 2 f_law_mix := by
  unfold f_law_mix
  exact ⟨fa, fd, ["number", "k"], fn_tr (k := 0) F sc_law_mix GAll.nil B t_law_mix, hm, F.kp, F.binds (ps := ["number", "k"]) fun _ _ _ _ _ _ us hl => match us, hl with | [_, _], _ => rfl⟩
theorem sc_law_pool : FnScope ["script", "pool", "state", "k", "cell", "turn"] ["script"] (defScope s_law_pool) := ⟨rfl, rfl, rfl, by decide +kernel, rfl, by decide +kernel, by decide +kernel⟩
theorem t_law_pool : trSs 60 ⟨["script", "pool", "state", "k", "cell", "turn"], defScope s_law_pool, fun _ => true, [("_law_mix", 2, f_law_mix)], bs, [(42, 11, 13), (56, 11, 28)]⟩ (defBody s_law_pool) = some D_law_pool := by kernel_rfl
theorem e_law_pool {fa : Addr} {fd : FuncData} (F : Fun K "_law_pool" "_law_pool" s_law_pool fa fd) (hm : mg "_law_pool" = some (.ref fa)) (B : BsOk mg) (h0 : Ent P w K mg base 1 "_law_mix" 2 f_law_mix) : Ent P w K mg base 2 "_law_pool" 1 f_law_pool := by
  unfold f_law_pool
  exact ⟨fa, fd, ["script"], fn_tr (k := 1) F sc_law_pool (GAll.cons (h0.mono (by decide)) GAll.nil) B t_law_pool, hm, F.kp, F.binds (ps := ["script"]) fun _ _ _ _ _ _ us hl => match us, hl with | [_], _ => rfl⟩
theorem sc_law_draw : FnScope ["pool", "limit"] ["pool", "limit"] (defScope s_law_draw) := ⟨rfl, rfl, rfl, by decide +kernel, rfl, by decide +kernel, by decide +kernel⟩
theorem t_law_draw : trSs 60 ⟨["pool", "limit"], defScope s_law_draw, fun _ => true, [("_law_mix", 2, f_law_mix)], bs, []⟩ (defBody s_law_draw) = some D_law_draw := by kernel_rfl
theorem e_law_draw {fa : Addr} {fd : FuncData} (F : Fun K "_law_draw" "_law_draw" s_law_draw fa fd) (hm : mg "_law_draw" = some (.ref fa)) (B : BsOk mg) (h0 : Ent P w K mg base 1 "_law_mix" 2 f_law_mix) : Ent P w K mg base 2 "_law_draw" 2 f_law_draw := by
  unfold f_law_draw
  exact ⟨fa, fd, ["pool", "limit"], fn_tr (k := 1) F sc_law_draw (GAll.cons (h0.mono (by decide)) GAll.nil) B t_law_draw, hm, F.kp, F.binds (ps := ["pool", "limit"]) fun _ _ _ _ _ _ us hl => match us, hl with | [_, _], _ => rfl⟩
theorem sc_law_pick : FnScope ["pool", "rows"] ["pool", "rows"] (defScope s_law_pick) := ⟨rfl, rfl, rfl, by decide +kernel, rfl, by decide +kernel, by decide +kernel⟩
theorem t_law_pick : trSs 60 ⟨["pool", "rows"], defScope s_law_pick, fun _ => true, [("_law_draw", 2, f_law_draw)], bs, []⟩ (defBody s_law_pick) = some D_law_pick := by kernel_rfl
theorem e_law_pick {fa : Addr} {fd : FuncData} (F : Fun K "_law_pick" "_law_pick" s_law_pick fa fd) (hm : mg "_law_pick" = some (.ref fa)) (B : BsOk mg) (h0 : Ent P w K mg base 2 "_law_draw" 2 f_law_draw) : Ent P w K mg base 3 "_law_pick" 2 f_law_pick := by
  unfold f_law_pick
  exact ⟨fa, fd, ["pool", "rows"], fn_tr (k := 2) F sc_law_pick (GAll.cons (h0.mono (by decide)) GAll.nil) B t_law_pick, hm, F.kp, F.binds (ps := ["pool", "rows"]) fun _ _ _ _ _ _ us hl => match us, hl with | [_, _], _ => rfl⟩
theorem sc_law_whole : FnScope ["number"] ["number"] (defScope s_law_whole) := ⟨rfl, rfl, rfl, by decide +kernel, rfl, by decide +kernel, by decide +kernel⟩
theorem t_law_whole : trSs 60 ⟨["number"], defScope s_law_whole, fun _ => true, [], bs, []⟩ (defBody s_law_whole) = some D_law_whole := by kernel_rfl
theorem e_law_whole {fa : Addr} {fd : FuncData} (F : Fun K "_law_whole" "_law_whole" s_law_whole fa fd) (hm : mg "_law_whole" = some (.ref fa)) (B : BsOk mg)  : Ent P w K mg base 1 "_law_whole" 1 f_law_whole := by
  unfold f_law_whole
  exact ⟨fa, fd, ["number"], fn_tr (k := 0) F sc_law_whole GAll.nil B t_law_whole, hm, F.kp, F.binds (ps := ["number"]) fun _ _ _ _ _ _ us hl => match us, hl with | [_], _ => rfl⟩
theorem sc_law_plain : FnScope ["key", "part"] ["key"] (defScope s_law_plain) := ⟨rfl, rfl, rfl, by decide +kernel, rfl, by decide +kernel, by decide +kernel⟩
theorem t_law_plain (S : FSem) : trSs 60 ⟨["key", "part"], defScope s_law_plain, fun _ => true, [("_law_whole", 1, f_law_whole), ("_law_plain", 1, S)], bs, []⟩ (defBody s_law_plain) = some (D_law_plain S) := by kernel_rfl
theorem er_law_plain {fa : Addr} {fd : FuncData} (F : Fun K "_law_plain" "_law_plain" s_law_plain fa fd) (hm : mg "_law_plain" = some (.ref fa)) (B : BsOk mg) (h0 : Ent P w K mg base 1 "_law_whole" 1 f_law_whole) : ∀ n : Nat, Ent P w K mg base (1 + n) "_law_plain" 1 (r_law_plain n)
  | 0 => ⟨fa, fd, ["key"], (fn_no (ps := ["key"])).mono (Nat.zero_le _), hm, F.kp, F.binds (ps := ["key"]) fun _ _ _ _ _ _ us hl => match us, hl with | [_], _ => rfl⟩
  | n + 1 => ⟨fa, fd, ["key"], fn_tr (k := 1 + n) F sc_law_plain (GAll.cons (h0.mono (by omega)) (GAll.cons (er_law_plain F hm B h0 n) GAll.nil)) B (t_law_plain (r_law_plain n)), hm, F.kp, F.binds (ps := ["key"]) fun _ _ _ _ _ _ us hl => match us, hl with | [_], _ => rfl⟩
theorem e_law_plain {fa : Addr} {fd : FuncData} (F : Fun K "_law_plain" "_law_plain" s_law_plain fa fd) (hm : mg "_law_plain" = some (.ref fa)) (B : BsOk mg) (h0 : Ent P w K mg base 1 "_law_whole" 1 f_law_whole) (n : Nat) : Ent P w K mg base (1 + n) "_law_plain" 1 (f_law_plain n) := by
  unfold f_law_plain
  exact er_law_plain F hm B h0 n
theorem sc_law_same : FnScope ["told", "due", "key", "k"] ["told", "due"] (defScope s_law_same) := ⟨rfl, rfl, rfl, by decide +kernel, rfl, by decide +kernel, by decide +kernel⟩
theorem t_law_same (S : FSem) : trSs 60 ⟨["told", "due", "key", "k"], defScope s_law_same, fun _ => true, [("_law_whole", 1, f_law_whole), ("_law_same", 2, S), ("_law_plain", 1, (f_law_plain 6))], bs, []⟩ (defBody s_law_same) = some (D_law_same S) := by kernel_rfl
theorem er_law_same {fa : Addr} {fd : FuncData} (F : Fun K "_law_same" "_law_same" s_law_same fa fd) (hm : mg "_law_same" = some (.ref fa)) (B : BsOk mg) (h0 : Ent P w K mg base 1 "_law_whole" 1 f_law_whole) (h1 : Ent P w K mg base 7 "_law_plain" 1 (f_law_plain 6)) : ∀ n : Nat, Ent P w K mg base (7 + n) "_law_same" 2 (r_law_same n)
  | 0 => ⟨fa, fd, ["told", "due"], (fn_no (ps := ["told", "due"])).mono (Nat.zero_le _), hm, F.kp, F.binds (ps := ["told", "due"]) fun _ _ _ _ _ _ us hl => match us, hl with | [_, _], _ => rfl⟩
  | n + 1 => ⟨fa, fd, ["told", "due"], fn_tr (k := 7 + n) F sc_law_same (GAll.cons (h0.mono (by omega)) (GAll.cons (er_law_same F hm B h0 h1 n) (GAll.cons (h1.mono (by omega)) GAll.nil))) B (t_law_same (r_law_same n)), hm, F.kp, F.binds (ps := ["told", "due"]) fun _ _ _ _ _ _ us hl => match us, hl with | [_, _], _ => rfl⟩
theorem e_law_same {fa : Addr} {fd : FuncData} (F : Fun K "_law_same" "_law_same" s_law_same fa fd) (hm : mg "_law_same" = some (.ref fa)) (B : BsOk mg) (h0 : Ent P w K mg base 1 "_law_whole" 1 f_law_whole) (h1 : Ent P w K mg base 7 "_law_plain" 1 (f_law_plain 6)) (n : Nat) : Ent P w K mg base (7 + n) "_law_same" 2 (f_law_same n) := by
  unfold f_law_same
  exact er_law_same F hm B h0 h1 n
theorem sc_law_leq : FnScope ["one", "two", "k"] ["one", "two"] (defScope s_law_leq) := ⟨rfl, rfl, rfl, by decide +kernel, rfl, by decide +kernel, by decide +kernel⟩
theorem t_law_leq : trSs 60 ⟨["one", "two", "k"], defScope s_law_leq, fun _ => true, [], bs, []⟩ (defBody s_law_leq) = some D_law_leq := by kernel_rfl
theorem e_law_leq {fa : Addr} {fd : FuncData} (F : Fun K "_law_leq" "_law_leq" s_law_leq fa fd) (hm : mg "_law_leq" = some (.ref fa)) (B : BsOk mg)  : Ent P w K mg base 1 "_law_leq" 2 f_law_leq := by
  unfold f_law_leq
  exact ⟨fa, fd, ["one", "two"], fn_tr (k := 0) F sc_law_leq GAll.nil B t_law_leq, hm, F.kp, F.binds (ps := ["one", "two"]) fun _ _ _ _ _ _ us hl => match us, hl with | [_, _], _ => rfl⟩
theorem sc_law_moment : FnScope ["pool", "size", "span", "k"] ["pool", "size", "span"] (defScope s_law_moment) := ⟨rfl, rfl, rfl, by decide +kernel, rfl, by decide +kernel, by decide +kernel⟩
theorem t_law_moment : trSs 60 ⟨["pool", "size", "span", "k"], defScope s_law_moment, fun _ => true, [("_law_draw", 2, f_law_draw)], bs, []⟩ (defBody s_law_moment) = some D_law_moment := by kernel_rfl
theorem e_law_moment {fa : Addr} {fd : FuncData} (F : Fun K "_law_moment" "_law_moment" s_law_moment fa fd) (hm : mg "_law_moment" = some (.ref fa)) (B : BsOk mg) (h0 : Ent P w K mg base 2 "_law_draw" 2 f_law_draw) : Ent P w K mg base 3 "_law_moment" 3 f_law_moment := by
  unfold f_law_moment
  exact ⟨fa, fd, ["pool", "size", "span"], fn_tr (k := 2) F sc_law_moment (GAll.cons (h0.mono (by decide)) GAll.nil) B t_law_moment, hm, F.kp, F.binds (ps := ["pool", "size", "span"]) fun _ _ _ _ _ _ us hl => match us, hl with | [_, _, _], _ => rfl⟩
theorem sc_law_near : FnScope ["pool", "time", "c"] ["pool", "time"] (defScope s_law_near) := ⟨rfl, rfl, rfl, by decide +kernel, rfl, by decide +kernel, by decide +kernel⟩
theorem t_law_near : trSs 60 ⟨["pool", "time", "c"], defScope s_law_near, fun _ => true, [("_law_pick", 2, f_law_pick)], bs, []⟩ (defBody s_law_near) = some D_law_near := by kernel_rfl
theorem e_law_near {fa : Addr} {fd : FuncData} (F : Fun K "_law_near" "_law_near" s_law_near fa fd) (hm : mg "_law_near" = some (.ref fa)) (B : BsOk mg) (h0 : Ent P w K mg base 3 "_law_pick" 2 f_law_pick) : Ent P w K mg base 4 "_law_near" 2 f_law_near := by
  unfold f_law_near
  exact ⟨fa, fd, ["pool", "time"], fn_tr (k := 3) F sc_law_near (GAll.cons (h0.mono (by decide)) GAll.nil) B t_law_near, hm, F.kp, F.binds (ps := ["pool", "time"]) fun _ _ _ _ _ _ us hl => match us, hl with | [_, _], _ => rfl⟩
theorem sc_law_listed : FnScope ["pool", "size", "span", "many", "times", "k", "way", "time", "at"] ["pool", "size", "span"] (defScope s_law_listed) := ⟨rfl, rfl, rfl, by decide +kernel, rfl, by decide +kernel, by decide +kernel⟩
theorem t_law_listed : trSs 60 ⟨["pool", "size", "span", "many", "times", "k", "way", "time", "at"], defScope s_law_listed, fun _ => true, [("_law_draw", 2, f_law_draw), ("_law_pick", 2, f_law_pick), ("_law_moment", 3, f_law_moment), ("_law_near", 2, f_law_near)], bs, [(104, 12, 14)]⟩ (defBody s_law_listed) = some D_law_listed := by kernel_rfl
theorem e_law_listed {fa : Addr} {fd : FuncData} (F : Fun K "_law_listed" "_law_listed" s_law_listed fa fd) (hm : mg "_law_listed" = some (.ref fa)) (B : BsOk mg) (h0 : Ent P w K mg base 2 "_law_draw" 2 f_law_draw) (h1 : Ent P w K mg base 3 "_law_pick" 2 f_law_pick) (h2 : Ent P w K mg base 3 "_law_moment" 3 f_law_moment) (h3 : Ent P w K mg base 4 "_law_near" 2 f_law_near) : Ent P w K mg base 5 "_law_listed" 3 f_law_listed := by
  unfold f_law_listed
  exact ⟨fa, fd, ["pool", "size", "span"], fn_tr (k := 4) F sc_law_listed (GAll.cons (h0.mono (by decide)) (GAll.cons (h1.mono (by decide)) (GAll.cons (h2.mono (by decide)) (GAll.cons (h3.mono (by decide)) GAll.nil)))) B t_law_listed, hm, F.kp, F.binds (ps := ["pool", "size", "span"]) fun _ _ _ _ _ _ us hl => match us, hl with | [_, _, _], _ => rfl⟩
theorem sc_law_ends : FnScope ["times", "side", "found", "time", "pairs", "other", "pair"] ["times", "side"] (defScope s_law_ends) := ⟨rfl, rfl, rfl, by decide +kernel, rfl, by decide +kernel, by decide +kernel⟩
theorem t_law_ends : trSs 60 ⟨["times", "side", "found", "time", "pairs", "other", "pair"], defScope s_law_ends, fun _ => true, [("_law_leq", 2, f_law_leq)], bs, [(115, 12, 14)]⟩ (defBody s_law_ends) = some D_law_ends := by kernel_rfl
theorem e_law_ends {fa : Addr} {fd : FuncData} (F : Fun K "_law_ends" "_law_ends" s_law_ends fa fd) (hm : mg "_law_ends" = some (.ref fa)) (B : BsOk mg) (h0 : Ent P w K mg base 1 "_law_leq" 2 f_law_leq) : Ent P w K mg base 2 "_law_ends" 2 f_law_ends := by
  unfold f_law_ends
  exact ⟨fa, fd, ["times", "side"], fn_tr (k := 1) F sc_law_ends (GAll.cons (h0.mono (by decide)) GAll.nil) B t_law_ends, hm, F.kp, F.binds (ps := ["times", "side"]) fun _ _ _ _ _ _ us hl => match us, hl with | [_, _], _ => rfl⟩
theorem sc_law_ask : FnScope ["side", "rows"] ["side", "rows"] (defScope s_law_ask) := ⟨rfl, rfl, rfl, by decide +kernel, rfl, by decide +kernel, by decide +kernel⟩
theorem t_law_ask : trSs 60 ⟨["side", "rows"], defScope s_law_ask, fun _ => true, [("highest", 1, f_highest), ("lowest", 1, f_lowest)], bs, [(123, 15, 27), (124, 11, 24)]⟩ (defBody s_law_ask) = some D_law_ask := by kernel_rfl
theorem e_law_ask {fa : Addr} {fd : FuncData} (F : Fun K "_law_ask" "_law_ask" s_law_ask fa fd) (hm : mg "_law_ask" = some (.ref fa)) (B : BsOk mg) (h0 : Ent P w K mg base 3 "highest" 1 f_highest) (h1 : Ent P w K mg base 3 "lowest" 1 f_lowest) : Ent P w K mg base 4 "_law_ask" 2 f_law_ask := by
  unfold f_law_ask
  exact ⟨fa, fd, ["side", "rows"], fn_tr (k := 3) F sc_law_ask (GAll.cons (h0.mono (by decide)) (GAll.cons (h1.mono (by decide)) GAll.nil)) B t_law_ask, hm, F.kp, F.binds (ps := ["side", "rows"]) fun _ _ _ _ _ _ us hl => match us, hl with | [_, _], _ => rfl⟩
theorem sc_law_ends_right : FnScope ["times", "side", "extra", "due", "pair", "handed", "told"] ["times", "side", "extra"] (defScope s_law_ends_right) := ⟨rfl, rfl, rfl, by decide +kernel, rfl, by decide +kernel, by decide +kernel⟩
theorem t_law_ends_right : trSs 60 ⟨["times", "side", "extra", "due", "pair", "handed", "told"], defScope s_law_ends_right, fun _ => true, [("_law_ends", 2, f_law_ends), ("_law_ask", 2, f_law_ask), ("_law_same", 2, (f_law_same 6))], bs, [(129, 15, 37)]⟩ (defBody s_law_ends_right) = some D_law_ends_right := by kernel_rfl
theorem e_law_ends_right {fa : Addr} {fd : FuncData} (F : Fun K "_law_ends_right" "_law_ends_right" s_law_ends_right fa fd) (hm : mg "_law_ends_right" = some (.ref fa)) (B : BsOk mg) (h0 : Ent P w K mg base 2 "_law_ends" 2 f_law_ends) (h1 : Ent P w K mg base 4 "_law_ask" 2 f_law_ask) (h2 : Ent P w K mg base 13 "_law_same" 2 (f_law_same 6)) : Ent P w K mg base 14 "_law_ends_right" 3 f_law_ends_right := by
  unfold f_law_ends_right
  exact ⟨fa, fd, ["times", "side", "extra"], fn_tr (k := 13) F sc_law_ends_right (GAll.cons (h0.mono (by decide)) (GAll.cons (h1.mono (by decide)) (GAll.cons (h2.mono (by decide)) GAll.nil))) B t_law_ends_right, hm, F.kp, F.binds (ps := ["times", "side", "extra"]) fun _ _ _ _ _ _ us hl => match us, hl with | [_, _, _], _ => rfl⟩
theorem sc_law_met_right : FnScope ["times", "probe", "other", "above", "time", "below", "handed"] ["times", "probe", "other"] (defScope s_law_met_right) := ⟨rfl, rfl, rfl, by decide +kernel, rfl, by decide +kernel, by decide +kernel⟩
theorem t_law_met_right : trSs 60 ⟨["times", "probe", "other", "above", "time", "below", "handed"], defScope s_law_met_right, fun _ => true, [("_law_same", 2, (f_law_same 6)), ("_law_leq", 2, f_law_leq), ("covers", 2, f_covers), ("under", 2, f_under), ("lowest", 1, f_lowest), ("highest", 1, f_highest)], bs, []⟩ (defBody s_law_met_right) = some D_law_met_right := by kernel_rfl
theorem e_law_met_right {fa : Addr} {fd : FuncData} (F : Fun K "_law_met_right" "_law_met_right" s_law_met_right fa fd) (hm : mg "_law_met_right" = some (.ref fa)) (B : BsOk mg) (h0 : Ent P w K mg base 13 "_law_same" 2 (f_law_same 6)) (h1 : Ent P w K mg base 1 "_law_leq" 2 f_law_leq) (h2 : Ent P w K mg base 2 "covers" 2 f_covers) (h3 : Ent P w K mg base 2 "under" 2 f_under) (h4 : Ent P w K mg base 3 "lowest" 1 f_lowest) (h5 : Ent P w K mg base 3 "highest" 1 f_highest) : Ent P w K mg base 14 "_law_met_right" 3 f_law_met_right := by
  unfold f_law_met_right
  exact ⟨fa, fd, ["times", "probe", "other"], fn_tr (k := 13) F sc_law_met_right (GAll.cons (h0.mono (by decide)) (GAll.cons (h1.mono (by decide)) (GAll.cons (h2.mono (by decide)) (GAll.cons (h3.mono (by decide)) (GAll.cons (h4.mono (by decide)) (GAll.cons (h5.mono (by decide)) GAll.nil)))))) B t_law_met_right, hm, F.kp, F.binds (ps := ["times", "probe", "other"]) fun _ _ _ _ _ _ us hl => match us, hl with | [_, _, _], _ => rfl⟩
theorem sc_law_front : FnScope ["times", "k", "one"] ["times"] (defScope s_law_front) := ⟨rfl, rfl, rfl, by decide +kernel, rfl, by decide +kernel, by decide +kernel⟩
theorem t_law_front : trSs 60 ⟨["times", "k", "one"], defScope s_law_front, fun _ => true, [("_law_leq", 2, f_law_leq)], bs, []⟩ (defBody s_law_front) = some D_law_front := by kernel_rfl
theorem e_law_front {fa : Addr} {fd : FuncData} (F : Fun K "_law_front" "_law_front" s_law_front fa fd) (hm : mg "_law_front" = some (.ref fa)) (B : BsOk mg) (h0 : Ent P w K mg base 1 "_law_leq" 2 f_law_leq) : Ent P w K mg base 2 "_law_front" 1 f_law_front := by
  unfold f_law_front
  exact ⟨fa, fd, ["times"], fn_tr (k := 1) F sc_law_front (GAll.cons (h0.mono (by decide)) GAll.nil) B t_law_front, hm, F.kp, F.binds (ps := ["times"]) fun _ _ _ _ _ _ us hl => match us, hl with | [_], _ => rfl⟩
theorem sc_law_lists : FnScope ["pool", "front", "times", "once", "time", "rows", "turn", "at", "k", "moved"] ["pool", "front", "times"] (defScope s_law_lists) := ⟨rfl, rfl, rfl, by decide +kernel, rfl, by decide +kernel, by decide +kernel⟩
theorem t_law_lists : trSs 60 ⟨["pool", "front", "times", "once", "time", "rows", "turn", "at", "k", "moved"], defScope s_law_lists, fun _ => true, [("_law_draw", 2, f_law_draw), ("_law_pick", 2, f_law_pick)], bs, [(158, 11, 13), (162, 11, 50), (162, 38, 42)]⟩ (defBody s_law_lists) = some D_law_lists := by kernel_rfl
theorem e_law_lists {fa : Addr} {fd : FuncData} (F : Fun K "_law_lists" "_law_lists" s_law_lists fa fd) (hm : mg "_law_lists" = some (.ref fa)) (B : BsOk mg) (h0 : Ent P w K mg base 2 "_law_draw" 2 f_law_draw) (h1 : Ent P w K mg base 3 "_law_pick" 2 f_law_pick) : Ent P w K mg base 4 "_law_lists" 3 f_law_lists := by
  unfold f_law_lists
  exact ⟨fa, fd, ["pool", "front", "times"], fn_tr (k := 3) F sc_law_lists (GAll.cons (h0.mono (by decide)) (GAll.cons (h1.mono (by decide)) GAll.nil)) B t_law_lists, hm, F.kp, F.binds (ps := ["pool", "front", "times"]) fun _ _ _ _ _ _ us hl => match us, hl with | [_, _, _], _ => rfl⟩
theorem sc_law : FnScope ["script", "pool", "size", "span", "times", "probes", "k", "longer", "other", "close", "fuller", "rows", "side", "probe", "handed"] ["script"] (defScope s_law) := ⟨rfl, rfl, rfl, by decide +kernel, rfl, by decide +kernel, by decide +kernel⟩
theorem t_law : trSs 60 ⟨["script", "pool", "size", "span", "times", "probes", "k", "longer", "other", "close", "fuller", "rows", "side", "probe", "handed"], defScope s_law, fun _ => true, [("_law_pool", 1, f_law_pool), ("_law_pick", 2, f_law_pick), ("_law_listed", 3, f_law_listed), ("_law_moment", 3, f_law_moment), ("_law_lists", 3, f_law_lists), ("_law_near", 2, f_law_near), ("_law_ends", 2, f_law_ends), ("_law_ends_right", 3, f_law_ends_right), ("_law_met_right", 3, f_law_met_right), ("_law_draw", 2, f_law_draw), ("_law_same", 2, (f_law_same 6)), ("is_frontier", 1, f_is_frontier), ("_law_front", 1, f_law_front)], bs, [(176, 11, 28), (180, 13, 44)]⟩ (defBody s_law) = some D_law := by kernel_rfl
theorem e_law {fa : Addr} {fd : FuncData} (F : Fun K "law" "law" s_law fa fd) (hm : mg "law" = some (.ref fa)) (B : BsOk mg) (h0 : Ent P w K mg base 2 "_law_pool" 1 f_law_pool) (h1 : Ent P w K mg base 3 "_law_pick" 2 f_law_pick) (h2 : Ent P w K mg base 5 "_law_listed" 3 f_law_listed) (h3 : Ent P w K mg base 3 "_law_moment" 3 f_law_moment) (h4 : Ent P w K mg base 4 "_law_lists" 3 f_law_lists) (h5 : Ent P w K mg base 4 "_law_near" 2 f_law_near) (h6 : Ent P w K mg base 2 "_law_ends" 2 f_law_ends) (h7 : Ent P w K mg base 14 "_law_ends_right" 3 f_law_ends_right) (h8 : Ent P w K mg base 14 "_law_met_right" 3 f_law_met_right) (h9 : Ent P w K mg base 2 "_law_draw" 2 f_law_draw) (h10 : Ent P w K mg base 13 "_law_same" 2 (f_law_same 6)) (h11 : Ent P w K mg base 4 "is_frontier" 1 f_is_frontier) (h12 : Ent P w K mg base 2 "_law_front" 1 f_law_front) : Ent P w K mg base 15 "law" 1 f_law := by
  unfold f_law
  exact ⟨fa, fd, ["script"], fn_tr (k := 14) F sc_law (GAll.cons (h0.mono (by decide)) (GAll.cons (h1.mono (by decide)) (GAll.cons (h2.mono (by decide)) (GAll.cons (h3.mono (by decide)) (GAll.cons (h4.mono (by decide)) (GAll.cons (h5.mono (by decide)) (GAll.cons (h6.mono (by decide)) (GAll.cons (h7.mono (by decide)) (GAll.cons (h8.mono (by decide)) (GAll.cons (h9.mono (by decide)) (GAll.cons (h10.mono (by decide)) (GAll.cons (h11.mono (by decide)) (GAll.cons (h12.mono (by decide)) GAll.nil))))))))))))) B t_law, hm, F.kp, F.binds (ps := ["script"]) fun _ _ _ _ _ _ us hl => match us, hl with | [_], _ => rfl⟩
end
end DL

namespace DL
open PySem L2
/-! C0: what the laws share: tuples of ints, orders, draws (pasted behind the terms of a law). -/
local macro_rules | `(tactic| walk_at "go") => `(tactic| repeat (first | refine wp_mb ?_ | with_reducible refine wp_mul (by first | assumption | (exact okMul_iff.mpr (by omega))) ?_ | with_reducible refine wp_mod (by first | assumption | (exact okMod_iff.mpr (by omega))) ?_ | with_reducible refine wp_div (by first | assumption | (exact okDiv_iff.mpr (by omega))) ?_ | with_reducible refine wp_pow (by first | assumption | (exact okPow_iff.mpr (by decide))) ?_ | ((with_reducible refine wp_set ?_ ?_ ?_); (focus rfl); (focus first | exact tT_lb | exact lb_int _ _ | exact lb_bl _ _ | exact lb_non _ | assumption)) | refine wp_eq rfl ?_))

/-! ### plain lists -/
def leqB : List Int → List Int → Bool
  | [], [] => true
  | x :: a, y :: b => decide (x ≤ y) && leqB a b
  | _, _ => false
theorem leqB_len : ∀ {a b : List Int}, a.length ≠ b.length → leqB a b = false
  | [], [], h => absurd rfl h
  | [], _ :: _, _ => rfl
  | _ :: _, [], _ => rfl
  | x :: a, y :: b, h => by
    rw [leqB, leqB_len (a := a) (b := b) (fun e => h (by rw [List.length_cons, List.length_cons, e])), Bool.and_false]
theorem leqB_drop {a b : List Int} {k : Nat} (ha : k < a.length) (hb : k < b.length) : leqB (a.drop k) (b.drop k) = (decide (a[k] ≤ b[k]) && leqB (a.drop (k + 1)) (b.drop (k + 1))) := by
  rw [List.drop_eq_getElem_cons ha, List.drop_eq_getElem_cons hb, leqB]
def lubL (a b : List Int) : List Int := List.zipWith max a b
def glbL (a b : List Int) : List Int := List.zipWith min a b
theorem lubL_len {a b : List Int} (h : a.length = b.length) : (lubL a b).length = a.length := by unfold lubL; rw [List.length_zipWith, h, Nat.min_self]
theorem glbL_len {a b : List Int} (h : a.length = b.length) : (glbL a b).length = a.length := by unfold glbL; rw [List.length_zipWith, h, Nat.min_self]
theorem leqB_lub : ∀ {a b t : List Int}, a.length = b.length → leqB (lubL a b) t = (leqB a t && leqB b t)
  | [], [], [], _ => rfl
  | [], [], _ :: _, _ => rfl
  | x :: a, y :: b, [], _ => rfl
  | x :: a, y :: b, z :: t, h => by
    show (decide (max x y ≤ z) && leqB (lubL a b) t) = ((decide (x ≤ z) && leqB a t) && (decide (y ≤ z) && leqB b t))
    rw [leqB_lub (a := a) (b := b) (t := t) (by simpa using h)]
    have e : decide (max x y ≤ z) = (decide (x ≤ z) && decide (y ≤ z)) := by
      rw [Bool.eq_iff_iff, Bool.and_eq_true, decide_eq_true_iff, decide_eq_true_iff, decide_eq_true_iff]
      omega
    rw [e]
    cases decide (x ≤ z) <;> cases decide (y ≤ z) <;> cases leqB a t <;> rfl
theorem leqB_glb : ∀ {t a b : List Int}, a.length = b.length → leqB t (glbL a b) = (leqB t a && leqB t b)
  | [], [], [], _ => rfl
  | _ :: _, [], [], _ => rfl
  | [], x :: a, y :: b, _ => rfl
  | z :: t, x :: a, y :: b, h => by
    show (decide (z ≤ min x y) && leqB t (glbL a b)) = ((decide (z ≤ x) && leqB t a) && (decide (z ≤ y) && leqB t b))
    rw [leqB_glb (a := a) (b := b) (t := t) (by simpa using h)]
    have e : decide (z ≤ min x y) = (decide (z ≤ x) && decide (z ≤ y)) := by
      rw [Bool.eq_iff_iff, Bool.and_eq_true, decide_eq_true_iff, decide_eq_true_iff, decide_eq_true_iff]
      omega
    rw [e]
    cases decide (z ≤ x) <;> cases decide (z ≤ y) <;> cases leqB t a <;> rfl

/-! ### pieces over tuples of ints -/
theorem eqv_int (x y : Int) : (PyData.int x).eqv (PyData.int y) = (x == y) := by rw [PyData.eqv]
theorem tup_ix {a : List Int} {k : Nat} (h : k < a.length) {st : Sto} : opIx (tT a) (.int ((0 : Int) + (k : Int))) st = some (.int a[k], st) := by
  show (atI (a.map PV.int) ((0 : Int) + (k : Int))).map (fun v => (v, st)) = _
  rw [Int.zero_add, atI_nat (j := k) (v := .int a[k]) (by rw [List.getElem?_map, List.getElem?_eq_getElem h]; rfl)]
  rfl
theorem rng_get {n k : Nat} {x : PV} (h : (rng 0 (n : Int))[k]? = some x) : k < n ∧ x = .int ((0 : Int) + (k : Int)) := by
  unfold rng at h
  rw [Int.sub_zero, Int.toNat_natCast, List.getElem?_map] at h
  by_cases q : k < n
  · rw [List.getElem?_range q] at h
    cases h
    exact ⟨q, rfl⟩
  · rw [List.getElem?_eq_none (by rw [List.length_range]; omega)] at h
    cases h
theorem rng_len {n : Nat} : (rng 0 (n : Int)).length = n := by
  unfold rng
  rw [Int.sub_zero, Int.toNat_natCast, List.length_map, List.length_range]
theorem okR {n : Nat} (h : n ≤ 1000000) : okRng (n : Int) = true := okRng_iff.mpr ⟨by omega, by omega⟩
theorem okL {n : Nat} (h : n ≤ 1000000) : n ≤ sizeLine := Nat.le_trans h (by decide)
theorem max_if (i j : Int) : (if j > i then j else i) = max i j := by
  by_cases h : j > i
  · rw [if_pos h]; omega
  · rw [if_neg h]; omega
theorem min_if (i j : Int) : (if j < i then j else i) = min i j := by
  by_cases h : j < i
  · rw [if_pos h]; omega
  · rw [if_neg h]; omega
theorem mkT_eq {xs : List PV} {st : Sto} (h : xs.length ≤ sizeLine) : mkT xs st = some (.tup xs, st) := if_pos h
theorem mkV_eq {xs : List PV} {st : Sto} (h : xs.length ≤ sizeLine) : mkL false xs st = some (.lst xs, st) := by
  unfold mkL
  rw [if_pos h, if_neg (by decide)]
theorem mkM_eq {xs : List PV} {st : Sto} (h : xs.length ≤ sizeLine) (hb : lbs 0 xs = true) : mkL true xs st = some (.loc st.nxt, st.alloc (.lst xs)) := by
  unfold mkL
  rw [if_pos h, if_pos rfl, if_pos hb]
theorem sort2 (x y : Int) : sortI [x, y] = [min x y, max x y] := by
  refine (sortI_uniq (ns := [x, y]) ?_ ?_).symm
  · by_cases h : x ≤ y
    · rw [Int.min_eq_left h, Int.max_eq_right h]
    · rw [Int.min_eq_right (by omega), Int.max_eq_left (by omega)]
      exact List.Perm.swap _ _ _
  · simp only [List.pairwise_cons, List.mem_singleton, List.not_mem_nil, List.Pairwise.nil]
    refine ⟨fun z h => by subst h; omega, fun _ h => h.elim, trivial⟩

/-! C0b: draws -/
def mixI (x k : Int) : Int :=
  ((((x * 48271 + k * 69621 + 11) % 2147483647) * ((x * 48271 + k * 69621 + 11) % 2147483647) + k * 7919 + 5) % 2147483629 * ((((x * 48271 + k * 69621 + 11) % 2147483647) * ((x * 48271 + k * 69621 + 11) % 2147483647) + k * 7919 + 5) % 2147483629) + k * 40692 + 3) % 2147483587
theorem mix_eq {x k : Int} {st : Sto} : f_law_mix [.int x, .int k] st = some (.int (mixI x k), st) := by
  unfold f_law_mix
  refine runF_eq rfl (lb_int _ _) ?_
  show wp (D_law_mix [some (.int x), some (.int k)] st) _
  unfold D_law_mix
  walk_at "go"
  exact ⟨rfl, rfl⟩
theorem mix_pos {x k : Int} : 0 ≤ mixI x k := Int.emod_nonneg _ (by decide)

/-- a pool of draws stands at p -/
def Pool (p : Nat) (st : Sto) : Prop := ∃ P : List Int, st.cs p = some (.lst (P.map .int)) ∧ 2 ≤ P.length
/-- only the pool at p may have changed -/
def Dr (p : Nat) (st st' : Sto) : Prop := ∃ P : List Int, st' = st.set p (.lst (P.map .int)) ∧ 2 ≤ P.length
theorem Pool.dr {p : Nat} {st st' : Sto} (h : Pool p st) (d : Dr p st st') : Pool p st' := by
  obtain ⟨P, hP, _⟩ := h
  obtain ⟨P', rfl, h2⟩ := d
  exact ⟨P', Sto.set_get hP, h2⟩
theorem Dr.refl {p : Nat} {st : Sto} (h : Pool p st) : Dr p st st := by
  obtain ⟨P, hP, h2⟩ := h
  exact ⟨P, (Sto.set_self hP).symm, h2⟩
theorem Dr.trans {p : Nat} {st st1 st2 : Sto} (a : Dr p st st1) (b : Dr p st1 st2) : Dr p st st2 := by
  obtain ⟨P, rfl, _⟩ := a
  obtain ⟨P', rfl, h⟩ := b
  exact ⟨P', by rw [Sto.set_set], h⟩
theorem Dr.get {p l : Nat} {st st' : Sto} (d : Dr p st st') (h : l ≠ p) : st'.cs l = st.cs l := by
  obtain ⟨P, rfl, _⟩ := d
  exact Sto.set_ne h
theorem Dr.nxt {p : Nat} {st st' : Sto} (d : Dr p st st') : st'.nxt = st.nxt := by
  obtain ⟨P, rfl, _⟩ := d
  rfl
theorem Pool.lt {p : Nat} {st : Sto} (h : Pool p st) : p < st.nxt := by
  obtain ⟨P, hP, _⟩ := h
  exact Sto.lt_of hP
theorem Dr.restr {p : Nat} {st st' : Sto} (d : Dr p st st') : st'.restr st.nxt = st' := by rw [← d.nxt, Sto.restr_self]
theorem ints_get {P : List Int} {k : Nat} (h : k < P.length) : (P.map PV.int)[k]? = some (.int P[k]) := by
  rw [List.getElem?_map, List.getElem?_eq_getElem h]; rfl
theorem ints_at {P : List Int} {k : Nat} (h : k < P.length) : atI (P.map PV.int) (k : Int) = some (.int P[k]) := atI_nat (ints_get h)
theorem draw_wp {p : Nat} {st : Sto} {lim : Int} {Q : PV → Sto → Prop} (h : Pool p st) (hl : 0 < lim) (q : ∀ r st', 0 ≤ r → r < lim → Dr p st st' → Q (.int r) st') : wp (f_law_draw [.loc p, .int lim] st) Q := by
  obtain ⟨P, hP, h2⟩ := h
  unfold f_law_draw
  refine wp_runF rfl ?_
  show wp (D_law_draw [some (.loc p), some (.int lim)] st) _
  have fin' : ∀ (r : Int) (P' : List Int), 2 ≤ P'.length → Q (.int (r % lim)) ((st.set p (.lst (P'.map .int))).restr st.nxt) := fun r P' h' =>
    q _ _ (Int.emod_nonneg _ (by omega)) (Int.emod_lt_of_pos _ hl) ⟨P', Sto.restr_self (st.set p (.lst (P'.map .int))), h'⟩
  unfold D_law_draw
  walk_at "go"
  refine wp_eq (loc_len hP) ?_
  walk_at "go"
  rw [List.length_map]
  refine wp_if (fun h3 => ?_) (fun h3 => ?_)
  · have h3 : 2 < P.length := by
      have := of_decide_eq_true h3
      omega
    walk_at "go"
    refine wp_eq (loc_asL hP) ?_
    walk_at "go"
    refine wp_eq (loc_pop hP (v := .int (P[P.length - 1]'(by omega))) (by rw [List.length_map]; exact ints_get (by omega))) ?_
    walk_at "go"
    rw [← List.map_dropLast]
    exact fin' _ _ (by rw [List.length_dropLast]; omega)
  · walk_at "go"
    refine wp_eq (loc_ix hP (ints_at (k := 1) (by omega))) ?_
    walk_at "go"
    refine wp_eq (a := [some (.loc p), some (.int lim)]) (s := st.set p (.lst ((P.set 1 (P[1] + 1)).map .int))) ?_ ?_
    · rw [loc_set hP (i := 1) (j := 1) (by rw [List.length_map]; unfold ixN; rw [if_pos (by decide), if_pos (by omega)]; rfl) (lb_int _ _), ← List.map_set]
      rfl
    have hP1 : (st.set p (.lst ((P.set 1 (P[1] + 1)).map .int))).cs p = some (.lst ((P.set 1 (P[1] + 1)).map .int)) := Sto.set_get hP
    have hl1 : (P.set 1 (P[1] + 1)).length = P.length := List.length_set
    generalize P.set 1 (P[1] + 1) = P1 at hP1 hl1 ⊢
    walk_at "go"
    refine wp_eq (loc_ix hP1 (ints_at (k := 0) (by omega))) ?_
    walk_at "go"
    refine wp_eq (loc_ix hP1 (ints_at (k := 1) (by omega))) ?_
    walk_at "go"
    refine wp_eq (loc_ix hP1 (ints_at (k := 1) (by omega))) ?_
    walk_at "go"
    refine wp_eq mix_eq ?_
    walk_at "go"
    exact fin' _ _ (by omega)
theorem pick_wp {p : Nat} {st : Sto} {v : PV} {xs : List PV} {Q : PV → Sto → Prop} (h : Pool p st) (hx : ∀ st', Dr p st st' → seqOf st' v = some xs) (hne : 0 < xs.length) (hlb : ∀ x ∈ xs, x.lb 0 = true) (q : ∀ x st', x ∈ xs → Dr p st st' → Q x st') : wp (f_law_pick [.loc p, v] st) Q := by
  unfold f_law_pick
  refine wp_runF rfl ?_
  show wp (D_law_pick [some (.loc p), some v] st) _
  unfold D_law_pick
  walk_at "go"
  refine wp_eq (seq_len (hx st (.refl h))) ?_
  walk_at "go"
  refine draw_wp h (by omega) fun r st' h0 h1 d => ?_
  refine wp_set (by rw [d.nxt]) (lb_int _ _) ?_
  obtain ⟨k, rfl⟩ := Int.eq_ofNat_of_zero_le h0
  have hk : k < xs.length := by omega
  have hs := hx st' d
  refine wp_eq (seq_ix hs (atI_nat (List.getElem?_eq_getElem hk))) ?_
  walk_at "go"
  refine wp_eq (fin_val (PV.lb_mono (Nat.zero_le _) (hlb _ (List.getElem_mem hk)))) ?_
  rw [d.restr]
  exact q _ _ (List.getElem_mem hk) d
end DL

namespace DL
open PySem L2
/-! P of k01: frontiers, plainly -/
theorem leqB_refl : ∀ a : List Int, leqB a a = true
  | [] => rfl
  | x :: a => by rw [leqB, leqB_refl a, decide_eq_true (Int.le_refl x)]; rfl
theorem leqB_trans : ∀ {a b c : List Int}, leqB a b = true → leqB b c = true → leqB a c = true
  | [], [], [], _, _ => rfl
  | x :: a, y :: b, z :: c, h, k => by
    rw [leqB, Bool.and_eq_true, decide_eq_true_iff] at h k
    rw [leqB, leqB_trans h.2 k.2, decide_eq_true (Int.le_trans h.1 k.1)]; rfl
theorem leqB_eqlen {a b : List Int} (h : leqB a b = true) : a.length = b.length := by
  by_cases e : a.length = b.length
  · exact e
  · rw [leqB_len e] at h; cases h
theorem lexLe_of_leq : ∀ {a b : List Int}, leqB a b = true → lexLe a b = true
  | [], [], _ => rfl
  | x :: a, y :: b, h => by
    rw [leqB, Bool.and_eq_true, decide_eq_true_iff] at h
    unfold lexLe
    rw [HT.lexLt_cons]
    by_cases e : y = x
    · rw [if_pos e]; exact lexLe_of_leq h.2
    · rw [if_neg e, decide_eq_false (by omega)]; rfl
theorem lexLe_refl (a : List Int) : lexLe a a = true := lexLe_of_leq (leqB_refl a)
theorem lexLt_of_ne {a b : List Int} (h : lexLe a b = true) (n : a ≠ b) : HT.lexLt a b = true := by
  cases e : HT.lexLt a b with
  | true => rfl
  | false => exact absurd (lex_anti h (by unfold lexLe; rw [e]; rfl)) n
theorem lexLe_of_lt {a b : List Int} (h : HT.lexLt a b = true) : lexLe a b = true := by
  have := lex_tot a b
  rw [Bool.or_eq_true] at this
  rcases this with h1 | h1
  · exact h1
  · unfold lexLe at h1
    rw [h] at h1; cases h1
theorem lexLt_irr {a : List Int} : HT.lexLt a a = false := by
  have := lexLe_refl a
  unfold lexLe at this
  simpa using this
theorem eq_sorted {a b : List (List Int)} (sa : a.Pairwise fun x y => lexLe x y = true) (sb : b.Pairwise fun x y => lexLe x y = true) (na : a.Nodup) (nb : b.Nodup) (h : ∀ x, x ∈ a ↔ x ∈ b) : a = b := by
  have p : a.Perm b := (perm_uniqT na h).trans (perm_uniqT nb fun x => Iff.rfl).symm
  rw [sortT_uniq p sa]
  exact (sortT_uniq (List.Perm.refl b) sb).symm

/-- no other one stands before it -/
def lowB (R : List Int → List Int → Bool) (L : List (List Int)) (t : List Int) : Bool := L.all fun u => decide (u = t) || !R u t
theorem lowB_iff {R : List Int → List Int → Bool} {L : List (List Int)} {t : List Int} : lowB R L t = true ↔ ∀ u ∈ L, u ≠ t → R u t = false := by
  unfold lowB
  rw [List.all_eq_true]
  constructor
  · intro h u hu hn
    have := h u hu
    rw [decide_eq_false hn] at this
    simpa using this
  · intro h u hu
    by_cases e : u = t
    · rw [decide_eq_true e]; rfl
    · rw [decide_eq_false e, h u hu e]; rfl
theorem lowB_congr {R : List Int → List Int → Bool} {L M : List (List Int)} (h : ∀ x, x ∈ L ↔ x ∈ M) (t : List Int) : lowB R L t = lowB R M t := by
  rw [Bool.eq_iff_iff, lowB_iff, lowB_iff]
  exact ⟨fun g u hu => g u ((h u).mpr hu), fun g u hu => g u ((h u).mp hu)⟩
section
variable {R : List Int → List Int → Bool} {L : List (List Int)}
theorem below_pre (nd : L.Nodup) (pw : L.Pairwise fun a b => R b a = false) {pre post : List (List Int)} {t u : List Int} (e : L = pre ++ t :: post) (hu : u ∈ L) (hn : u ≠ t) (hr : R u t = true) : u ∈ pre := by
  subst e
  rw [List.mem_append, List.mem_cons] at hu
  rcases hu with hu | hu | hu
  · exact hu
  · exact absurd hu hn
  · have := (List.pairwise_append.mp pw).2.1
    rw [List.pairwise_cons] at this
    rw [this.1 u hu] at hr; cases hr
theorem low_ex (tr : ∀ a b c, R a b = true → R b c = true → R a c = true) (nd : L.Nodup) (pw : L.Pairwise fun a b => R b a = false) : ∀ (n : Nat) (pre post : List (List Int)) (t : List Int), pre.length = n → L = pre ++ t :: post → ∃ v ∈ L, lowB R L v = true ∧ (v = t ∨ R v t = true) := by
  intro n
  induction n using Nat.strongRecOn with
  | _ n ih =>
    intro pre post t hn e
    have ht : t ∈ L := by rw [e]; simp
    by_cases hl : lowB R L t = true
    · exact ⟨t, ht, hl, .inl rfl⟩
    · have : ∃ u ∈ L, u ≠ t ∧ R u t = true := by
        apply Classical.byContradiction
        intro hc
        apply hl
        rw [lowB_iff]
        intro u hu hne
        cases hr : R u t with
        | false => rfl
        | true => exact absurd ⟨u, hu, hne, hr⟩ hc
      obtain ⟨u, hu, hne, hr⟩ := this
      have hp := below_pre nd pw e hu hne hr
      obtain ⟨p1, p2, hp⟩ := List.append_of_mem hp
      obtain ⟨v, hv, hlv, h⟩ := ih p1.length (by rw [← hn, hp]; simp) p1 (p2 ++ t :: post) u rfl (by rw [e, hp]; simp)
      refine ⟨v, hv, hlv, .inr ?_⟩
      rcases h with h | h
      · rw [h]; exact hr
      · exact tr v u t h hr
theorem low_exists (tr : ∀ a b c, R a b = true → R b c = true → R a c = true) (nd : L.Nodup) (pw : L.Pairwise fun a b => R b a = false) {t : List Int} (ht : t ∈ L) : ∃ v ∈ L, lowB R L v = true ∧ (v = t ∨ R v t = true) := by
  obtain ⟨p1, p2, e⟩ := List.append_of_mem ht
  exact low_ex tr nd pw _ p1 p2 t rfl e
theorem low_step (tr : ∀ a b c, R a b = true → R b c = true → R a c = true) (nd : L.Nodup) (pw : L.Pairwise fun a b => R b a = false) {pre post : List (List Int)} {t : List Int} (e : L = pre ++ t :: post) : ((pre.filter (lowB R L)).any fun u => R u t) = !lowB R L t := by
  have ht : t ∈ L := by rw [e]; simp
  have tpre : t ∉ pre := by
    have nd' := nd
    rw [e] at nd'
    intro h
    exact (List.nodup_append.mp nd').2.2 t h t List.mem_cons_self rfl
  cases hl : lowB R L t with
  | true =>
    rw [Bool.not_true, List.any_eq_false]
    intro u hu
    rw [List.mem_filter] at hu
    have hne : u ≠ t := fun h => tpre (h ▸ hu.1)
    rw [lowB_iff.mp hl u (by rw [e]; simp [hu.1]) hne]
    exact Bool.false_ne_true
  | false =>
    rw [Bool.not_false, List.any_eq_true]
    obtain ⟨v, hv, hlv, h⟩ := low_exists tr nd pw ht
    have hne : v ≠ t := fun h => by rw [h, hl] at hlv; cases hlv
    rcases h with h | h
    · exact absurd h hne
    · exact ⟨v, List.mem_filter.mpr ⟨below_pre nd pw e hv hne h, hlv⟩, h⟩
end
def lowStep (R : List Int → List Int → Bool) (f : List (List Int)) (t : List Int) : List (List Int) := if f.any (fun u => R u t) then f else f ++ [t]
theorem filter_snoc {p : List Int → Bool} {pre : List (List Int)} {t : List Int} : (pre ++ [t]).filter p = if p t then pre.filter p ++ [t] else pre.filter p := by
  rw [List.filter_append]
  cases h : p t
  · simp [h]
  · simp [h]
theorem lowStep_eq {R : List Int → List Int → Bool} {L pre post : List (List Int)} {t : List Int} (tr : ∀ a b c, R a b = true → R b c = true → R a c = true) (nd : L.Nodup) (pw : L.Pairwise fun a b => R b a = false) (e : L = pre ++ t :: post) : lowStep R (pre.filter (lowB R L)) t = (pre ++ [t]).filter (lowB R L) := by
  unfold lowStep
  rw [low_step tr nd pw e, filter_snoc]
  cases lowB R L t <;> rfl

/-! what the program tells -/
def srt (ts : List (List Int)) : List (List Int) := sortT (uniqT ts)
theorem srt_mem {ts : List (List Int)} {x : List Int} : x ∈ srt ts ↔ x ∈ ts := by
  unfold srt
  rw [(sortT_perm _).mem_iff, uniqT_mem]
theorem srt_nodup (ts : List (List Int)) : (srt ts).Nodup := (sortT_perm _).nodup_iff.mpr (uniqT_nodup ts)
theorem srt_sorted (ts : List (List Int)) : (srt ts).Pairwise fun a b => lexLe a b = true := sortT_sorted _
def Rl (u t : List Int) : Bool := leqB u t
def Rh (u t : List Int) : Bool := leqB t u
theorem Rl_tr (a b c : List Int) (h : Rl a b = true) (k : Rl b c = true) : Rl a c = true := leqB_trans h k
theorem Rh_tr (a b c : List Int) (h : Rh a b = true) (k : Rh b c = true) : Rh a c = true := leqB_trans (a := c) (b := b) (c := a) k h
theorem srt_strict (ts : List (List Int)) : (srt ts).Pairwise fun a b => lexLe a b = true ∧ a ≠ b := (srt_sorted ts).imp_of_mem (fun {a b} _ _ h => h) |>.and (srt_nodup ts)
theorem srt_low (ts : List (List Int)) : (srt ts).Pairwise fun a b => Rl b a = false := (srt_strict ts).imp fun {a b} h => by
  cases e : Rl b a with
  | false => rfl
  | true => exact absurd (lex_anti h.1 (lexLe_of_leq e)) h.2
theorem srt_high (ts : List (List Int)) : (srt ts).reverse.Pairwise fun a b => Rh b a = false := by
  rw [List.pairwise_reverse]
  refine (srt_strict ts).imp fun {a b} h => ?_
  cases e : Rh a b with
  | false => rfl
  | true => exact absurd (lex_anti h.1 (lexLe_of_leq e)) h.2
theorem srt_rnodup (ts : List (List Int)) : (srt ts).reverse.Nodup := (List.reverse_perm _).nodup_iff.mpr (srt_nodup ts)
def lowL (ts : List (List Int)) : List (List Int) := (srt ts).filter (lowB Rl (srt ts))
def highF (ts : List (List Int)) : List (List Int) := (srt ts).reverse.filter (lowB Rh (srt ts).reverse)
def highL (ts : List (List Int)) : List (List Int) := sortT (highF ts)
/-- the ends on one side -/
def endP (side : Bool) (ts : List (List Int)) (x : List Int) : Prop := x ∈ ts ∧ lowB (if side then Rh else Rl) ts x = true
theorem lowL_mem {ts : List (List Int)} {x : List Int} : x ∈ lowL ts ↔ endP false ts x := by
  unfold lowL endP
  rw [List.mem_filter, srt_mem, lowB_congr (fun x => srt_mem) x]
  rfl
theorem highF_mem {ts : List (List Int)} {x : List Int} : x ∈ highF ts ↔ endP true ts x := by
  unfold highF endP
  rw [List.mem_filter, List.mem_reverse, srt_mem, lowB_congr (M := ts) (fun x => by rw [List.mem_reverse]; exact srt_mem) x]
  rfl
theorem highL_mem {ts : List (List Int)} {x : List Int} : x ∈ highL ts ↔ endP true ts x := by
  unfold highL
  rw [(sortT_perm _).mem_iff, highF_mem]
theorem lowL_sorted (ts : List (List Int)) : (lowL ts).Pairwise fun a b => lexLe a b = true := (srt_sorted ts).filter _
theorem lowL_nodup (ts : List (List Int)) : (lowL ts).Nodup := List.Pairwise.filter _ (srt_nodup ts)
theorem highL_sorted (ts : List (List Int)) : (highL ts).Pairwise fun a b => lexLe a b = true := sortT_sorted _
theorem highL_nodup (ts : List (List Int)) : (highL ts).Nodup := (sortT_perm _).nodup_iff.mpr (List.Pairwise.filter _ (srt_rnodup ts))
/-- what the law tells -/
def endR (side : Bool) : List Int → List Int → Bool := if side then Rh else Rl
def endStep (side : Bool) (ts f : List (List Int)) (t : List Int) : List (List Int) := if lowB (endR side) ts t && !decide (t ∈ f) then f ++ [t] else f
def endsL (side : Bool) (ts : List (List Int)) : List (List Int) := if side then highL ts else lowL ts
theorem endsL_mem {side : Bool} {ts : List (List Int)} {x : List Int} : x ∈ endsL side ts ↔ endP side ts x := by
  cases side
  · exact lowL_mem
  · exact highL_mem
theorem endsL_sorted (side : Bool) (ts : List (List Int)) : (endsL side ts).Pairwise fun a b => lexLe a b = true := by
  cases side
  · exact lowL_sorted ts
  · exact highL_sorted ts
theorem endsL_nodup (side : Bool) (ts : List (List Int)) : (endsL side ts).Nodup := by
  cases side
  · exact lowL_nodup ts
  · exact highL_nodup ts
theorem endsL_uniq {side : Bool} {ts a : List (List Int)} (sa : a.Pairwise fun x y => lexLe x y = true) (na : a.Nodup) (h : ∀ x, x ∈ a ↔ endP side ts x) : a = endsL side ts :=
  eq_sorted sa (endsL_sorted side ts) na (endsL_nodup side ts) fun x => by rw [h, endsL_mem]
theorem endP_sub {side : Bool} {ts : List (List Int)} {x : List Int} (h : endP side ts x) : endP side (endsL side ts) x := by
  refine ⟨endsL_mem.mpr h, ?_⟩
  rw [lowB_iff]
  intro u hu hn
  exact lowB_iff.mp h.2 u (endsL_mem.mp hu).1 hn
theorem endsL_idem (side : Bool) (ts : List (List Int)) : endsL side (endsL side ts) = endsL side ts := by
  symm
  refine endsL_uniq (endsL_sorted _ _) (endsL_nodup _ _) fun x => ?_
  constructor
  · intro h
    exact endP_sub (endsL_mem.mp h)
  · intro h
    exact h.1
theorem endsL_nil (side : Bool) : endsL side [] = [] := by
  symm
  refine endsL_uniq .nil .nil fun x => ?_
  constructor
  · intro h; cases h
  · intro h; exact h.1
/-- how far the law's loop has come -/
def EndI (side : Bool) (ts pre f : List (List Int)) : Prop := f.Nodup ∧ (f.Pairwise fun a b => lexLe a b = true) ∧ ∀ x, x ∈ f ↔ x ∈ pre ∧ lowB (endR side) ts x = true
theorem EndI.step {side : Bool} {ts pre post f : List (List Int)} {t : List Int} (e : sortT ts = pre ++ t :: post) (h : EndI side ts pre f) : EndI side ts (pre ++ [t]) (endStep side ts f t) := by
  obtain ⟨h1, h2, h3⟩ := h
  have hs := sortT_sorted ts
  rw [e, List.pairwise_append] at hs
  unfold endStep
  cases hl : lowB (endR side) ts t with
  | false =>
    rw [Bool.false_and, if_neg Bool.false_ne_true]
    refine ⟨h1, h2, fun x => ?_⟩
    rw [h3, List.mem_append, List.mem_singleton]
    constructor
    · rintro ⟨a, b⟩; exact ⟨.inl a, b⟩
    · rintro ⟨a | rfl, b⟩
      · exact ⟨a, b⟩
      · rw [hl] at b; cases b
  | true =>
    by_cases hm : t ∈ f
    · rw [decide_eq_true hm, Bool.not_true, Bool.and_false, if_neg Bool.false_ne_true]
      refine ⟨h1, h2, fun x => ?_⟩
      rw [h3, List.mem_append, List.mem_singleton]
      constructor
      · rintro ⟨a, b⟩; exact ⟨.inl a, b⟩
      · rintro ⟨a | rfl, b⟩
        · exact ⟨a, b⟩
        · exact ⟨((h3 _).mp hm).1, b⟩
    · rw [decide_eq_false hm, Bool.not_false, Bool.and_true, if_pos rfl]
      refine ⟨?_, ?_, fun x => ?_⟩
      · rw [List.nodup_append]
        refine ⟨h1, by simp, ?_⟩
        intro a ha b hb
        rw [List.mem_singleton] at hb
        subst hb
        exact fun z => hm (z ▸ ha)
      · rw [List.pairwise_append]
        refine ⟨h2, by simp, ?_⟩
        intro a ha b hb
        rw [List.mem_singleton] at hb
        subst hb
        exact hs.2.2 a ((h3 a).mp ha).1 b List.mem_cons_self
      · rw [List.mem_append, List.mem_singleton, h3, List.mem_append, List.mem_singleton]
        constructor
        · rintro (⟨a, b⟩ | rfl)
          · exact ⟨.inl a, b⟩
          · exact ⟨.inr rfl, hl⟩
        · rintro ⟨a | rfl, b⟩
          · exact .inl ⟨a, b⟩
          · exact .inr rfl
theorem EndI.done {side : Bool} {ts f : List (List Int)} (h : EndI side ts (sortT ts) f) : f = endsL side ts := by
  refine endsL_uniq h.2.1 h.1 fun x => ?_
  rw [h.2.2, (sortT_perm ts).mem_iff]
  rfl

/-! covers and under -/
def anyL (ts : List (List Int)) (p : List Int) : Bool := ts.any fun u => leqB u p
def anyH (ts : List (List Int)) (p : List Int) : Bool := ts.any fun u => leqB p u
theorem any_low (ts : List (List Int)) (p : List Int) : anyL (lowL ts) p = anyL ts p := by
  unfold anyL
  rw [Bool.eq_iff_iff, List.any_eq_true, List.any_eq_true]
  constructor
  · rintro ⟨u, h, k⟩
    exact ⟨u, (lowL_mem.mp h).1, k⟩
  · rintro ⟨u, h, k⟩
    obtain ⟨v, hv, hl, e⟩ := low_exists Rl_tr (srt_nodup ts) (srt_low ts) (srt_mem.mpr h)
    refine ⟨v, List.mem_filter.mpr ⟨hv, hl⟩, ?_⟩
    rcases e with rfl | e
    · exact k
    · exact leqB_trans e k
theorem any_high (ts : List (List Int)) (p : List Int) : anyH (highL ts) p = anyH ts p := by
  unfold anyH
  rw [Bool.eq_iff_iff, List.any_eq_true, List.any_eq_true]
  constructor
  · rintro ⟨u, h, k⟩
    exact ⟨u, (highL_mem.mp h).1, k⟩
  · rintro ⟨u, h, k⟩
    obtain ⟨v, hv, hl, e⟩ := low_exists Rh_tr (srt_rnodup ts) (srt_high ts) (List.mem_reverse.mpr (srt_mem.mpr h))
    refine ⟨v, highL_mem.mpr (highF_mem.mp (List.mem_filter.mpr ⟨hv, hl⟩)), ?_⟩
    rcases e with rfl | e
    · exact k
    · exact leqB_trans k e
theorem any_other {ts : List (List Int)} {n : Nat} {p : List Int} (h : ∀ t ∈ ts, t.length = n) (hp : p.length ≠ n) : anyL ts p = false ∧ anyH ts p = false := by
  unfold anyL anyH
  constructor <;> rw [List.any_eq_false] <;> intro u hu
  · rw [leqB_len (by rw [h u hu]; exact Ne.symm hp)]; exact Bool.false_ne_true
  · rw [leqB_len (by rw [h u hu]; exact hp)]; exact Bool.false_ne_true

/-! frontiers -/
def frontR (a b : List Int) : Prop := HT.lexLt a b = true ∧ leqB a b = false ∧ leqB b a = false
theorem front_iff (ts : List (List Int)) : ts = lowL ts ↔ ts.Pairwise frontR := by
  constructor
  · intro e
    have hs := lowL_sorted ts
    have hn := lowL_nodup ts
    rw [← e] at hs hn
    have hm : ∀ x ∈ ts, endP false ts x := fun x hx => lowL_mem.mp (by rw [← e]; exact hx)
    refine ((hs.and hn).imp_of_mem fun {a b} ha hb h => ?_)
    refine ⟨lexLt_of_ne h.1 h.2, lowB_iff.mp (hm b hb).2 a ha h.2, lowB_iff.mp (hm a ha).2 b hb (Ne.symm h.2)⟩
  · intro h
    have hs : ts.Pairwise fun a b => lexLe a b = true := h.imp fun {a b} h => lexLe_of_lt h.1
    have hn : ts.Nodup := h.imp fun {a b} h e => by
      subst e
      have h1 := h.1
      rw [lexLt_irr] at h1
      exact Bool.false_ne_true h1
    refine eq_sorted hs (lowL_sorted ts) hn (lowL_nodup ts) fun x => ?_
    rw [lowL_mem]
    refine ⟨fun hx => ⟨hx, ?_⟩, fun hx => hx.1⟩
    show lowB Rl ts x = true
    rw [lowB_iff]
    intro u hu hne
    obtain ⟨i, hi, rfl⟩ := List.mem_iff_getElem.mp hu
    obtain ⟨j, hj, rfl⟩ := List.mem_iff_getElem.mp hx
    rw [List.pairwise_iff_getElem] at h
    rcases Nat.lt_trichotomy i j with q | q | q
    · exact (h i j hi hj q).2.1
    · subst q; exact absurd rfl hne
    · exact (h j i hj hi q).2.2
end DL

namespace DL
open PySem L2
local macro_rules | `(tactic| walk_at "go") => `(tactic| repeat (first | refine wp_mb ?_ | with_reducible refine wp_mul (by first | assumption | (exact okMul_iff.mpr (by omega))) ?_ | with_reducible refine wp_mod (by first | assumption | (exact okMod_iff.mpr (by omega))) ?_ | with_reducible refine wp_div (by first | assumption | (exact okDiv_iff.mpr (by omega))) ?_ | with_reducible refine wp_pow (by first | assumption | (exact okPow_iff.mpr (by decide))) ?_ | ((with_reducible refine wp_set ?_ ?_ ?_); (focus rfl); (focus first | exact tT_lb | exact lb_int _ _ | exact lb_bl _ _ | exact lb_non _ | assumption)) | refine wp_eq rfl ?_))
/-! C0c: the pool is made; the law's own comparison -/
theorem add_lst {m : Bool} {a b : List PV} {y : PV} {st : Sto} (h : lstOf st y = some b) : opAdd m (.lst a) y st = mkL m (a ++ b) st := by
  have e : opAdd m (.lst a) y st = (match lstOf st (.lst a), lstOf st y with | some a, some b => mkL m (a ++ b) st | _, _ => none) := by
    cases y <;> rfl
  rw [e, h]
  rfl
theorem lst_loc {l : Nat} {st : Sto} {xs : List PV} (h : st.cs l = some (.lst xs)) : lstOf st (.loc l) = some xs := by
  show (match st.cs l with | some (.lst xs) => some xs | _ => none) = _
  rw [h]
theorem pool_wp {ns : List Int} {st : Sto} {Q : PV → Sto → Prop} (h : ns.length ≤ 63) (q : ∀ P : List Int, 2 ≤ P.length → Q (.loc st.nxt) (st.alloc (.lst (P.map .int)))) : wp (f_law_pool [.ro (ns.map .int)] st) Q := by
  unfold f_law_pool
  refine wp_runF rfl ?_
  show wp (D_law_pool [some (.ro (ns.map .int)), none, none, none, none, none] st) _
  unfold D_law_pool
  refine wp_mb (wp_mb (wp_mb (wp_eq rfl ?_)))
  refine wp_eq (mkM_eq (by decide) (lbs_nil 0)) ?_
  walk_at "go"
  have h63 : ¬ (63 : Int) < (ns.length : Int) := by omega
  rw [List.length_map, if_neg h63]
  refine wp_pos (okR (n := ns.length) (by omega)) ?_
  walk_at "go"
  refine forGo_wp (its := ⟨rng 0 (ns.length : Int), none⟩) (fun k env s => ∃ (state : Int) (u3 u4 u5 : Option PV) (P : List Int), env = [some (.ro (ns.map .int)), some (.loc st.nxt), some (.int state), u3, u4, u5] ∧ s = st.alloc (.lst (P.map .int)) ∧ P.length ≤ 60 * k) _ (fun k x env s hx hI => ?_) (fun env s hI => ?_) ⟨_, none, none, none, [], rfl, rfl, Nat.zero_le _⟩
  · obtain ⟨state, u3, u4, u5, P, rfl, rfl, hP⟩ := hI
    obtain ⟨hk, rfl⟩ := rng_get hx
    refine ⟨Its.ok_none, wp_eq rfl ?_⟩
    walk_at "go"
    refine wp_eq (seq_ix rfl (i := (0 : Int) + (k : Int)) (x := .int ns[k]) (by rw [Int.zero_add]; exact ints_at hk)) ?_
    walk_at "go"
    refine wp_eq mix_eq ?_
    walk_at "go"
    generalize hc : (if ns[k] < 0 then -ns[k] else ns[k]) = cell
    refine wp_if (fun h1 => ?_) (fun h1 => ?_)
    · walk_at "go"
      refine wp_pos (okRng_iff.mpr ⟨by decide, by decide⟩) ?_
      walk_at "go"
      refine forGo_wp (its := ⟨rng 0 ((60 : Nat) : Int), none⟩) (fun j env s => ∃ (state cell : Int) (u3 u5 : Option PV) (P : List Int), env = [some (.ro (ns.map .int)), some (.loc st.nxt), some (.int state), u3, some (.int cell), u5] ∧ s = st.alloc (.lst (P.map .int)) ∧ P.length ≤ 60 * k + j) _ (fun j x env s hx hI => ?_) (fun env s hI => ?_) ⟨_, _, _, _, P, rfl, rfl, by omega⟩
      · obtain ⟨state, cell, u3, u5, P, rfl, rfl, hP⟩ := hI
        obtain ⟨hj, rfl⟩ := rng_get hx
        refine ⟨Its.ok_none, wp_eq rfl ?_⟩
        walk_at "go"
        refine wp_if (fun h1 => ?_) (fun h1 => ?_)
        · walk_at "go"
          refine wp_eq (loc_asL Sto.alloc_get) ?_
          walk_at "go"
          refine wp_eq (loc_append Sto.alloc_get (by rw [List.length_map, sizeLine_eq]; omega) (lb_int _ _)) ?_
          walk_at "go"
          refine ⟨_, _, _, _, P ++ [cell % 1000], rfl, ?_, by rw [List.length_append, List.length_singleton]; omega⟩
          rw [Sto.alloc_set, List.map_append]
          rfl
        · walk_at "go"
          exact ⟨_, _, _, _, P, rfl, rfl, by omega⟩
      · obtain ⟨state, cell, u3, u5, P, rfl, rfl, hP⟩ := hI
        rw [rng_len] at hP
        refine ⟨Its.ok_none, ?_⟩
        exact ⟨_, _, _, _, P, rfl, rfl, by omega⟩
    · walk_at "go"
      refine wp_pos (okRng_iff.mpr ⟨by decide, by decide⟩) ?_
      walk_at "go"
      refine forGo_wp (its := ⟨rng 0 ((3 : Nat) : Int), none⟩) (fun j env s => ∃ (u5 : Option PV) (P : List Int), env = [some (.ro (ns.map .int)), some (.loc st.nxt), some (.int (mixI (state + cell % 1000000007) (0 + (k : Int)))), some (.int (0 + (k : Int))), some (.int cell), u5] ∧ s = st.alloc (.lst (P.map .int)) ∧ P.length ≤ 60 * k + j) _ (fun j x env s hx hI => ?_) (fun env s hI => ?_) ⟨_, P, rfl, rfl, by omega⟩
      · obtain ⟨u5, P, rfl, rfl, hP⟩ := hI
        obtain ⟨hj, rfl⟩ := rng_get hx
        refine ⟨Its.ok_none, wp_eq rfl ?_⟩
        walk_at "go"
        refine wp_eq (loc_asL Sto.alloc_get) ?_
        walk_at "go"
        refine wp_eq mix_eq ?_
        walk_at "go"
        refine wp_eq (loc_append Sto.alloc_get (by rw [List.length_map, sizeLine_eq]; omega) (lb_int _ _)) ?_
        walk_at "go"
        refine ⟨_, P ++ [mixI (cell + 65537 * (0 + (k : Int))) (0 + (j : Int))], rfl, ?_, by rw [List.length_append, List.length_singleton]; omega⟩
        rw [Sto.alloc_set, List.map_append]
        rfl
      · obtain ⟨u5, P, rfl, rfl, hP⟩ := hI
        rw [rng_len] at hP
        refine ⟨Its.ok_none, ?_⟩
        exact ⟨_, _, _, _, P, rfl, rfl, by omega⟩
  · obtain ⟨state, u3, u4, u5, P, rfl, rfl, hP⟩ := hI
    rw [rng_len] at hP
    refine ⟨Its.ok_none, ?_⟩
    walk_at "go"
    refine wp_eq (loc_asL Sto.alloc_get) ?_
    walk_at "go"
    refine wp_eq (loc_reverse Sto.alloc_get) ?_
    rw [Sto.alloc_set]
    walk_at "go"
    rw [← List.map_reverse, add_lst (lst_loc Sto.alloc_get)]
    have e : [PV.int state, PV.int 0] ++ P.reverse.map PV.int = (state :: 0 :: P.reverse).map PV.int := rfl
    rw [e]
    refine wp_eq (mkM_eq (by rw [List.length_map, sizeLine_eq]; simp; omega) (lbs_map (fun i => lb_int 0 i) _)) ?_
    walk_at "go"
    refine wp_eq (fin_loc (by rw [Sto.alloc_nxt]; omega) Sto.alloc_get) ?_
    rw [Sto.restr_alloc (by rw [Sto.alloc_nxt]; omega), Sto.restr_alloc (Nat.le_refl _), Sto.restr_self]
    exact q _ (by simp)

/-! the law's own == -/
def plainP : Nat → PV → Bool
  | _, .non => true
  | _, .bl _ => true
  | _, .int _ => true
  | d + 1, .tup xs => decide (xs.length ≤ 1000000) && xs.all (plainP d)
  | d + 1, .lst xs => decide (xs.length ≤ 1000000) && xs.all (plainP d)
  | _, _ => false
theorem derf_cases {st : Sto} {t v : PV} (h : derf st t = v) : t = v ∨ ∃ l c, t = .loc l ∧ st.cs l = some c ∧ v = c.val := by
  unfold derf at h
  split at h
  · rename_i l
    split at h
    · rename_i c hc
      exact .inr ⟨l, c, rfl, hc, h.symm⟩
    · exact .inl h
  · exact .inl h
theorem derf_atom {st : Sto} {t v : PV} (h : derf st t = v) (hv : ∀ c : Cell, v ≠ c.val) : t = v := by
  rcases derf_cases h with h | ⟨l, c, _, _, h⟩
  · exact h
  · exact absurd h (hv c)
theorem plain_derf {st : Sto} {d : Nat} {v : PV} (h : plainP d v = true) : derf st v = v := by
  cases v with
  | loc l => cases d <;> exact absurd (show false = true from h) Bool.false_ne_true
  | _ => rfl
theorem whole_int {i : Int} {st : Sto} : f_law_whole [.int i] st = some (.bl true, st) := by
  unfold f_law_whole
  refine runF_eq rfl (lb_bl _ _) ?_
  show wp (D_law_whole [some (.int i)] st) _
  unfold D_law_whole
  walk_at "go"
  exact ⟨rfl, rfl⟩
theorem lst_facts {st : Sto} {t : PV} {xs : List PV} (h : derf st t = .lst xs) : seqOf st t = some xs ∧ (∀ b, isTy b st t = some (b == BTy.list)) ∧ isNonP t = false ∧ (∀ s, t ≠ .str s) := by
  rcases derf_cases h with rfl | ⟨l, c, rfl, hc, e⟩
  · exact ⟨rfl, fun b => rfl, rfl, fun _ z => by cases z⟩
  · cases c with
    | lst ys =>
      cases e
      refine ⟨?_, fun b => ?_, rfl, fun _ z => by cases z⟩
      · show (match st.cs l with | some (.lst xs) => some xs | _ => none) = _
        rw [hc]
      · show (match st.cs l with | some (.lst _) => some (b == BTy.list) | _ => none) = _
        rw [hc]
    | dct _ _ => cases e
theorem isi_eq {b : BTy} {t : PV} {st : Sto} {r : Bool} (h : isTy b st t = some r) : bIsi b t st = some (.bl r, st) := by
  unfold bIsi
  rw [h]; rfl
theorem eqv_bool (x y : Bool) : (PyData.bool x).eqv (PyData.bool y) = (x == y) := by rw [PyData.eqv]
theorem eqv_str (x y : Str) : (PyData.str x).eqv (PyData.str y) = (x == y) := by rw [PyData.eqv]
/-- both are the same list or tuple: item by item -/
theorem same_seq {self : FSem} {told due : PV} {xs : List PV} {st : Sto} {ty : BTy} (hz : xs.length ≤ 1000000) (hty : ty = .list ∨ ty = .tuple) (h1 : seqOf st told = some xs) (h2 : seqOf st due = some xs) (t1 : ∀ b, isTy b st told = some (b == ty)) (t2 : ∀ b, isTy b st due = some (b == ty)) (n2 : isNonP due = false)
    (hs : ∀ x ∈ xs, self [x, x] st = some (.bl true, st)) : runF 4 2 (D_law_same self) [told, due] st = some (.bl true, st) := by
  refine runF_eq rfl (lb_bl _ _) ?_
  show wp (D_law_same self [some told, some due, none, none] st) _
  have b1 : (BTy.bool == ty) = false := by rcases hty with rfl | rfl <;> rfl
  have b2 : (BTy.int == ty) = false := by rcases hty with rfl | rfl <;> rfl
  have b3 : (BTy.str == ty) = false := by rcases hty with rfl | rfl <;> rfl
  have b4 : (BTy.dict == ty) = false := by rcases hty with rfl | rfl <;> rfl
  unfold D_law_same
  walk_at "go"
  rw [n2]
  walk_at "go"
  refine wp_eq (isi_eq (t2 .bool)) ?_
  rw [b1]
  walk_at "go"
  refine wp_eq (isi_eq (t2 .int)) ?_
  rw [b2]
  walk_at "go"
  refine wp_eq (isi_eq (t2 .str)) ?_
  rw [b3]
  walk_at "go"
  refine wp_eq (isi_eq (t2 .dict)) ?_
  rw [b4]
  walk_at "go"
  refine wp_eq (isi_eq (t2 .list)) ?_
  walk_at "go"
  refine wp_eq (isi_eq (t1 .list)) ?_
  walk_at "go"
  rw [eqv_bool, beq_self_eq_true]
  walk_at "go"
  refine wp_eq (isi_eq (t2 .tuple)) ?_
  walk_at "go"
  refine wp_eq (isi_eq (t1 .tuple)) ?_
  walk_at "go"
  rw [eqv_bool, beq_self_eq_true]
  walk_at "go"
  refine wp_eq (seq_len h1) ?_
  walk_at "go"
  refine wp_eq (seq_len h2) ?_
  walk_at "go"
  rw [eqv_int, beq_self_eq_true]
  walk_at "go"
  refine wp_eq (seq_len h2) ?_
  walk_at "go"
  refine wp_pos (okR hz) ?_
  walk_at "go"
  refine forGo_wp (its := ⟨rng 0 (xs.length : Int), none⟩) (fun k env s => s = st ∧ ∃ u2 u3, env = [some told, some due, u2, u3]) _ (fun k x env s hx hI => ?_) (fun env s hI => ?_) ⟨rfl, _, _, rfl⟩
  · obtain ⟨rfl, u2, u3, rfl⟩ := hI
    obtain ⟨hk, rfl⟩ := rng_get hx
    refine ⟨Its.ok_none, wp_eq rfl ?_⟩
    walk_at "go"
    have hat : atI xs ((0 : Int) + (k : Int)) = some xs[k] := by rw [Int.zero_add]; exact atI_nat (List.getElem?_eq_getElem hk)
    refine wp_eq (seq_ix h1 hat) ?_
    walk_at "go"
    refine wp_eq (seq_ix h2 hat) ?_
    walk_at "go"
    refine wp_eq (hs _ (List.getElem_mem hk)) ?_
    walk_at "go"
    exact ⟨rfl, _, _, rfl⟩
  · obtain ⟨rfl, u2, u3, rfl⟩ := hI
    refine ⟨Its.ok_none, ?_⟩
    walk_at "go"
    exact ⟨rfl, rfl⟩
theorem same_true : ∀ (d : Nat) {told due v : PV} {st : Sto}, derf st told = v → derf st due = v → plainP d v = true → r_law_same (d + 1) [told, due] st = some (.bl true, st) := by
  intro d
  induction d with
  | zero =>
    intro told due v st h1 h2 hp
    cases v with
    | non =>
      cases derf_atom h1 (fun c z => by cases c <;> cases z)
      cases derf_atom h2 (fun c z => by cases c <;> cases z)
      refine runF_eq rfl (lb_bl _ _) ?_
      show wp (D_law_same _ [some .non, some .non, none, none] st) _
      unfold D_law_same
      walk_at "go"
      exact ⟨rfl, rfl⟩
    | bl b =>
      cases derf_atom h1 (fun c z => by cases c <;> cases z)
      cases derf_atom h2 (fun c z => by cases c <;> cases z)
      refine runF_eq rfl (lb_bl _ _) ?_
      show wp (D_law_same _ [some (.bl b), some (.bl b), none, none] st) _
      unfold D_law_same
      walk_at "go"
      rw [eqv_bool, beq_self_eq_true]
      exact ⟨rfl, rfl⟩
    | int i =>
      cases derf_atom h1 (fun c z => by cases c <;> cases z)
      cases derf_atom h2 (fun c z => by cases c <;> cases z)
      refine runF_eq rfl (lb_bl _ _) ?_
      show wp (D_law_same _ [some (.int i), some (.int i), none, none] st) _
      unfold D_law_same
      walk_at "go"
      refine wp_eq whole_int ?_
      walk_at "go"
      rw [eqv_int, beq_self_eq_true]
      exact ⟨rfl, rfl⟩
    | _ => exact absurd (show false = true from hp) Bool.false_ne_true
  | succ d ih =>
    intro told due v st h1 h2 hp
    have up : ∀ {d : Nat} {t u w : PV} {st : Sto}, plainP 0 w = true → derf st t = w → derf st u = w → r_law_same (d + 1) [t, u] st = some (.bl true, st) := by
      intro d t u w st hp h1 h2
      cases w with
      | non =>
        cases derf_atom h1 (fun c z => by cases c <;> cases z)
        cases derf_atom h2 (fun c z => by cases c <;> cases z)
        refine runF_eq rfl (lb_bl _ _) ?_
        show wp (D_law_same _ [some .non, some .non, none, none] st) _
        unfold D_law_same
        walk_at "go"
        exact ⟨rfl, rfl⟩
      | bl b =>
        cases derf_atom h1 (fun c z => by cases c <;> cases z)
        cases derf_atom h2 (fun c z => by cases c <;> cases z)
        refine runF_eq rfl (lb_bl _ _) ?_
        show wp (D_law_same _ [some (.bl b), some (.bl b), none, none] st) _
        unfold D_law_same
        walk_at "go"
        rw [eqv_bool, beq_self_eq_true]
        exact ⟨rfl, rfl⟩
      | int i =>
        cases derf_atom h1 (fun c z => by cases c <;> cases z)
        cases derf_atom h2 (fun c z => by cases c <;> cases z)
        refine runF_eq rfl (lb_bl _ _) ?_
        show wp (D_law_same _ [some (.int i), some (.int i), none, none] st) _
        unfold D_law_same
        walk_at "go"
        refine wp_eq whole_int ?_
        walk_at "go"
        rw [eqv_int, beq_self_eq_true]
        exact ⟨rfl, rfl⟩
      | _ => exact absurd (show false = true from hp) Bool.false_ne_true
    cases v with
    | tup xs =>
      cases derf_atom h1 (fun c z => by cases c <;> cases z)
      cases derf_atom h2 (fun c z => by cases c <;> cases z)
      rw [plainP, Bool.and_eq_true, decide_eq_true_iff, List.all_eq_true] at hp
      exact same_seq hp.1 (.inr rfl) rfl rfl (fun b => rfl) (fun b => rfl) rfl fun x hx => ih (plain_derf (hp.2 x hx)) (plain_derf (hp.2 x hx)) (hp.2 x hx)
    | lst xs =>
      rw [plainP, Bool.and_eq_true, decide_eq_true_iff, List.all_eq_true] at hp
      obtain ⟨a1, a2, a3, _⟩ := lst_facts h1
      obtain ⟨b1, b2, b3, _⟩ := lst_facts h2
      exact same_seq hp.1 (.inl rfl) a1 b1 a2 b2 b3 fun x hx => ih (plain_derf (hp.2 x hx)) (plain_derf (hp.2 x hx)) (hp.2 x hx)
    | non => exact up rfl h1 h2
    | bl _ => exact up rfl h1 h2
    | int _ => exact up rfl h1 h2
    | _ => exact absurd (show false = true from hp) Bool.false_ne_true
theorem same_ok {told due v : PV} {st : Sto} (h1 : derf st told = v) (h2 : derf st due = v) (hp : plainP 5 v = true) : f_law_same 6 [told, due] st = some (.bl true, st) := by
  unfold f_law_same
  exact same_true 5 h1 h2 hp
theorem plain_tT {d : Nat} {a : List Int} (h : a.length ≤ 1000000) : plainP (d + 1) (tT a) = true := by
  show (decide ((a.map PV.int).length ≤ 1000000) && (a.map PV.int).all (plainP d)) = true
  rw [List.length_map, decide_eq_true h, List.all_map]
  rw [List.all_eq_true.mpr (fun x _ => by cases d <;> rfl)]
  rfl
theorem plain_int {d : Nat} {i : Int} : plainP d (.int i) = true := by cases d <;> rfl
theorem plain_bl {d : Nat} {i : Bool} : plainP d (.bl i) = true := by cases d <;> rfl
theorem plain_non {d : Nat} : plainP d .non = true := by cases d <;> rfl
end DL

namespace DL
open PySem L2
/-! E: == and in over tuples of ints -/
theorem toDs_ints {cs : Nat → Option Cell} : ∀ a : List Int, toDs cs (a.map .int) = some (a.map PyData.int)
  | [] => by rw [List.map_nil, toDs]; rfl
  | x :: a => by rw [List.map_cons, toDs, PV.toD, toDs_ints a]; rfl
theorem toD_tT {cs : Nat → Option Cell} {a : List Int} : (tT a).toD cs = some (.tuple (a.map PyData.int)) := by
  unfold tT
  rw [PV.toD, toDs_ints]; rfl
theorem toDs_rows {cs : Nat → Option Cell} : ∀ ks : List (List Int), toDs cs (ks.map tT) = some (ks.map fun a => PyData.tuple (a.map PyData.int))
  | [] => by rw [List.map_nil, toDs]; rfl
  | x :: a => by rw [List.map_cons, toDs, toD_tT, toDs_rows a]; rfl
theorem eqvA_ints : ∀ a b : List Int, PyData.eqvAll (a.map PyData.int) (b.map PyData.int) = decide (a = b)
  | [], [] => by rw [List.map_nil, PyData.eqvAll]; rfl
  | [], y :: b => by rw [List.map_nil, List.map_cons, PyData.eqvAll]; rfl
  | x :: a, [] => by rw [List.map_nil, List.map_cons, PyData.eqvAll]; rfl
  | x :: a, y :: b => by
    rw [List.map_cons, List.map_cons, PyData.eqvAll, PyData.eqv, eqvA_ints a b]
    by_cases h : x = y
    · subst h; simp
    · simp [h]
theorem eqv_tT (a b : List Int) : (PyData.tuple (a.map PyData.int)).eqv (.tuple (b.map PyData.int)) = decide (a = b) := by
  rw [PyData.eqv, eqvA_ints]
theorem eqvA_rows : ∀ a b : List (List Int), PyData.eqvAll (a.map fun k => PyData.tuple (k.map PyData.int)) (b.map fun k => PyData.tuple (k.map PyData.int)) = decide (a = b)
  | [], [] => by rw [List.map_nil, PyData.eqvAll]; rfl
  | [], y :: b => by rw [List.map_nil, List.map_cons, PyData.eqvAll]; rfl
  | x :: a, [] => by rw [List.map_nil, List.map_cons, PyData.eqvAll]; rfl
  | x :: a, y :: b => by
    rw [List.map_cons, List.map_cons, PyData.eqvAll, eqv_tT, eqvA_rows a b]
    by_cases h : x = y
    · subst h; simp
    · simp [h]
theorem lay_ints : ∀ a : List Int, PyData.canLayAll0 (a.map PyData.int) = true ∧ PyData.depthAll (a.map PyData.int) = 0
  | [] => by rw [List.map_nil, PyData.canLayAll0, PyData.depthAll]; exact ⟨rfl, rfl⟩
  | x :: a => by
    obtain ⟨h1, h2⟩ := lay_ints a
    rw [List.map_cons, PyData.canLayAll0, PyData.depthAll, h1, h2, PyData.canLay0, PyData.depth]
    exact ⟨rfl, rfl⟩
theorem shaped_tT (a : List Int) : SeqAt.shaped (.tuple (a.map PyData.int)) = true := by
  obtain ⟨h1, h2⟩ := lay_ints a
  unfold SeqAt.shaped
  rw [PyData.canLay0, PyData.depth, h1, h2]
  rfl
theorem lay_rows : ∀ a : List (List Int), PyData.canLayAll0 (a.map fun k => PyData.tuple (k.map PyData.int)) = true ∧ PyData.depthAll (a.map fun k => PyData.tuple (k.map PyData.int)) ≤ 1
  | [] => by rw [List.map_nil, PyData.canLayAll0, PyData.depthAll]; exact ⟨rfl, by omega⟩
  | x :: a => by
    obtain ⟨h1, h2⟩ := lay_rows a
    obtain ⟨h3, h4⟩ := lay_ints x
    rw [List.map_cons, PyData.canLayAll0, PyData.depthAll, h1, PyData.canLay0, PyData.depth, h3, h4]
    exact ⟨rfl, by omega⟩
theorem shaped_rows (a : List (List Int)) : SeqAt.shaped (.list (a.map fun k => PyData.tuple (k.map PyData.int))) = true := by
  obtain ⟨h1, h2⟩ := lay_rows a
  unfold SeqAt.shaped
  rw [PyData.canLay0, PyData.depth, h1, decide_eq_true (show _ ≤ 64 by omega)]
  rfl
theorem cmpEq_tT {neg : Bool} {a b : List Int} {st : Sto} : cmpEq neg (tT a) (tT b) st = some (.bl (decide (a = b) != neg), st) := by
  unfold cmpEq
  show (match (tT a).toD st.cs, (tT b).toD st.cs with | some d, some e => if SeqAt.shaped d && SeqAt.shaped e then some (PV.bl (PyData.eqv d e != neg), st) else none | _, _ => none) = _
  rw [toD_tT, toD_tT]
  show (if SeqAt.shaped (.tuple (a.map PyData.int)) && SeqAt.shaped (.tuple (b.map PyData.int)) then _ else _) = _
  rw [shaped_tT, shaped_tT, eqv_tT]
  rfl
theorem cmpEq_rows {neg : Bool} {x y : PV} {as bs : List (List Int)} {st : Sto} (h1 : derf st x = .lst (as.map tT)) (h2 : derf st y = .lst (bs.map tT)) : cmpEq neg x y st = some (.bl (decide (as = bs) != neg), st) := by
  unfold cmpEq
  rw [h1, h2, PV.toD, PV.toD, toDs_rows, toDs_rows]
  show (if SeqAt.shaped (.list (as.map fun k => PyData.tuple (k.map PyData.int))) && SeqAt.shaped (.list (bs.map fun k => PyData.tuple (k.map PyData.int))) then some (PV.bl (PyData.eqv (.list (as.map fun k => PyData.tuple (k.map PyData.int))) (.list (bs.map fun k => PyData.tuple (k.map PyData.int))) != neg), st) else none) = _
  rw [shaped_rows, shaped_rows, PyData.eqv, eqvA_rows]
  rfl
theorem seq_lst {st : Sto} {y : PV} {xs : List PV} (h : lstOf st y = some xs) : seqOf st y = some xs := by
  cases y with
  | lst ys => exact h
  | loc l => exact h
  | _ => cases h
theorem in_rows {neg : Bool} {y : PV} {a : List Int} {ks : List (List Int)} {st : Sto} (h : lstOf st y = some (ks.map tT)) : cmpIn neg (tT a) y st = some (.bl (decide (a ∈ ks) != neg), st) := by
  have hany : ∀ ks : List (List Int), ((ks.map fun k => PyData.tuple (k.map PyData.int)).any fun z => PyData.eqv z (.tuple (a.map PyData.int))) = decide (a ∈ ks) := by
    intro ks
    induction ks with
    | nil => rfl
    | cons k r ih =>
      rw [List.map_cons, List.any_cons, eqv_tT]
      rw [ih]
      by_cases e : k = a
      · subst e; simp
      · have e2 : ¬ a = k := fun z => e z.symm
        simp [e, e2]
  unfold cmpIn
  rw [seq_lst h]
  show (if (flatP (tT a) && (ks.map tT).all flatP) = true then _ else _) = _
  rw [if_neg (show ¬ (flatP (tT a) && (ks.map tT).all flatP) = true from fun z => by cases z), h]
  show (match (derf st (tT a)).toD st.cs, toDs st.cs (ks.map tT) with | some d, some ds => if SeqAt.shaped d && SeqAt.shaped (.list ds) then some (PV.bl ((ds.any fun z => PyData.eqv z d) != neg), st) else none | _, _ => none) = _
  rw [show derf st (tT a) = tT a from rfl, toD_tT, toDs_rows]
  show (if SeqAt.shaped (.tuple (a.map PyData.int)) && SeqAt.shaped (.list (ks.map fun k => PyData.tuple (k.map PyData.int))) then _ else _) = _
  rw [shaped_tT, shaped_rows, hany]
  rfl
end DL

namespace DL
open PySem L2
local macro_rules | `(tactic| walk_at "go") => `(tactic| repeat (first | refine wp_mb ?_ | with_reducible refine wp_mul (by first | assumption | (exact okMul_iff.mpr (by omega))) ?_ | with_reducible refine wp_mod (by first | assumption | (exact okMod_iff.mpr (by omega))) ?_ | with_reducible refine wp_div (by first | assumption | (exact okDiv_iff.mpr (by omega))) ?_ | with_reducible refine wp_pow (by first | assumption | (exact okPow_iff.mpr (by decide))) ?_ | ((with_reducible refine wp_set ?_ ?_ ?_); (focus rfl); (focus first | exact tT_lb | exact lb_int _ _ | exact lb_bl _ _ | exact lb_non _ | assumption)) | refine wp_eq rfl ?_))
/-! C1s: more that the laws share -/
theorem zip_get {f : Int → Int → Int} {a b : List Int} {k : Nat} (ha : k < a.length) (hb : k < b.length) : ((List.zipWith f a b).map PV.int)[k]? = some (.int (f a[k] b[k])) := by
  rw [List.getElem?_map, List.getElem?_zipWith, List.getElem?_eq_getElem ha, List.getElem?_eq_getElem hb]
  rfl
theorem bTuple_lst {xs : List PV} {st : Sto} (h : xs.length ≤ 1000000) : bTuple [.lst xs] st = some (.tup xs, st) := mkT_eq (okL h)
theorem law_leq_eq {a b : List Int} (h : a.length = b.length) (ha : a.length ≤ 1000) {st : Sto} : f_law_leq [tT a, tT b] st = some (.bl (leqB a b), st) := by
  unfold f_law_leq
  refine runF_eq rfl (lb_bl _ _) ?_
  show wp (D_law_leq [some (tT a), some (tT b), none] st) _
  unfold D_law_leq
  walk_at "go"
  rw [List.length_map]
  refine wp_pos (okR (by omega)) ?_
  walk_at "go"
  refine wp_eq (lc_rng ((List.zipWith (fun x y => decide (x ≤ y)) a b).map .bl) (by rw [List.length_map, List.length_zipWith]; omega) fun k hk => ⟨_, .bl (decide (a[k] ≤ b[k])), rfl, ?_, eq_of_wp ?_⟩) ?_
  · rw [List.getElem?_map, List.getElem?_zipWith, List.getElem?_eq_getElem hk, List.getElem?_eq_getElem (by omega)]
    rfl
  · walk_at "go"
    rw [tup_ix hk]
    walk_at "go"
    rw [tup_ix (a := b) (by omega)]
    walk_at "go"
    exact ⟨rfl, rfl⟩
  · refine wp_eq (mkV_eq (okL (by rw [List.length_map, List.length_zipWith]; omega))) ?_
    refine wp_eq (a := .bl (leqB a b)) (s := st) ?_ (wp_ret ⟨rfl, rfl⟩)
    have flat : ∀ l : List Bool, (l.map PV.bl).all flatP = true := fun l => by rw [List.all_map, List.all_eq_true]; intro _ _; rfl
    have anyf : ∀ l : List Bool, ((l.map PV.bl).any fun z => eqP z (.bl false)) = !(l.all id) := fun l => by
      induction l with
      | nil => rfl
      | cons x l ih =>
        rw [List.map_cons, List.any_cons, ih, List.all_cons]
        cases x <;> cases l.all id <;> rfl
    have key : ∀ a b : List Int, a.length = b.length → (List.zipWith (fun x y => decide (x ≤ y)) a b).all id = leqB a b := by
      intro a
      induction a with
      | nil => intro b h; cases b with
        | nil => rfl
        | cons _ _ => cases h
      | cons x a ih => intro b h; cases b with
        | nil => cases h
        | cons y b =>
          rw [List.zipWith_cons_cons, List.all_cons, ih b (by simpa using h), leqB]
          rfl
    show (if (flatP (.bl false) && ((List.zipWith (fun x y => decide (x ≤ y)) a b).map PV.bl).all flatP) = true then some (PV.bl ((((List.zipWith (fun x y => decide (x ≤ y)) a b).map PV.bl).any fun z => eqP z (.bl false)) != true), st) else _) = _
    rw [flat, if_pos (show (flatP (.bl false) && true) = true from rfl), anyf, key a b h]
    cases leqB a b <;> rfl
theorem add_tup {m : Bool} {a b : List PV} {st : Sto} (h : a.length + b.length ≤ 1000000) : opAdd m (.tup a) (.tup b) st = some (.tup (a ++ b), st) := by
  show (if a.length + b.length ≤ sizeLine then some (PV.tup (a ++ b), st) else none) = _
  rw [if_pos (okL h)]
theorem add_tT {m : Bool} {a b : List Int} {st : Sto} (h : a.length + b.length ≤ 1000000) : opAdd m (tT a) (tT b) st = some (tT (a ++ b), st) := by
  show opAdd m (.tup (a.map .int)) (.tup (b.map .int)) st = _
  rw [add_tup (by rw [List.length_map, List.length_map]; exact h), ← List.map_append]
  rfl
theorem sIx_to {n k d : Nat} : HT.sIx n d (some (k : Int)) = min k n := HT.sIx_nat n d k
theorem cut_from {xs : List PV} {k : Nat} (h : k ≤ xs.length) : cutP xs (some (k : Int)) none = xs.drop k := by
  unfold cutP
  rw [sIx_to, HT.sIx_none, Nat.min_eq_left h]
  exact List.take_of_length_le (by rw [List.length_drop]; omega)
theorem cut_to {xs : List PV} {k : Nat} (h : k ≤ xs.length) : cutP xs none (some (k : Int)) = xs.take k := by
  unfold cutP
  rw [sIx_to, HT.sIx_none, Nat.min_eq_left h, Nat.sub_zero, List.drop_zero]
theorem seq_of_lst {v : PV} {st : Sto} {xs : List PV} (h : lstOf st v = some xs) : seqOf st v = some xs := by
  cases v with
  | lst ys => exact h
  | loc l => exact h
  | _ => cases h
theorem derf_of_lst {v : PV} {st : Sto} {xs : List PV} (h : lstOf st v = some xs) : derf st v = .lst xs := by
  cases v with
  | lst ys => cases h; rfl
  | loc l =>
    have h : (match st.cs l with | some (.lst xs) => some xs | _ => none) = some xs := h
    show (match st.cs l with | some c => c.val | none => .loc l) = _
    split at h
    · rename_i hl
      cases h
      rw [hl]; rfl
    · cases h
  | _ => cases h
theorem intsOf_map (l : List Int) : intsOf (l.map .int) = some l := by
  induction l with
  | nil => rfl
  | cons x l ih => rw [List.map_cons, intsOf, ih]; rfl

theorem get_map {α : Type} {f : α → PV} {l : List α} {k : Nat} {x : PV} (h : (l.map f)[k]? = some x) : ∃ y, l[k]? = some y ∧ y ∈ l ∧ x = f y := by
  rw [List.getElem?_map] at h
  cases hk : l[k]? with
  | none => rw [hk] at h; cases h
  | some y => rw [hk] at h; cases h; exact ⟨y, rfl, List.mem_of_getElem? hk, rfl⟩
theorem bMin_ints {l : List Int} {st : Sto} (h : l ≠ []) : bMin [.lst (l.map .int)] st = some (.int (minL l), st) := by
  show (match intsOf (l.map .int) with | some (i :: r) => some (PV.int (minL (i :: r)), st) | _ => none) = _
  rw [intsOf_map]
  cases l with
  | nil => exact absurd rfl h
  | cons x r => rfl
theorem bList_v {v : PV} {xs : List PV} {st : Sto} (h : seqOf st v = some xs) (hz : xs.length ≤ 1000000) : bList false [v] st = some (.lst xs, st) := by
  show (match seqOf st v with | some xs => mkL false xs st | none => none) = _
  rw [h]
  exact mkV_eq (okL hz)
theorem pool_new {P : List Int} {st : Sto} (h : 2 ≤ P.length) : Pool st.nxt (st.alloc (.lst (P.map .int))) := ⟨P, Sto.alloc_get, h⟩
theorem Pool.alloc {p : Nat} {st : Sto} {c : Cell} (h : Pool p st) : Pool p (st.alloc c) := by
  obtain ⟨P, hP, h2⟩ := h
  have : p < st.nxt := Sto.lt_of hP
  exact ⟨P, by rw [Sto.alloc_ne (by omega)]; exact hP, h2⟩
theorem Pool.set {p l : Nat} {st : Sto} {c : Cell} (h : Pool p st) (hl : l ≠ p) : Pool p (st.set l c) := by
  obtain ⟨P, hP, h2⟩ := h
  exact ⟨P, by rw [Sto.set_ne (Ne.symm hl)]; exact hP, h2⟩
/-! C0l: leq -/
theorem leq_eq {a b : List Int} (ha : a.length ≤ 1000) {st : Sto} : f_leq [tT a, tT b] st = some (.bl (leqB a b), st) := by
  unfold f_leq
  refine runF_eq rfl (lb_bl _ _) ?_
  show wp (D_leq [some (tT a), some (tT b), none] st) _
  unfold D_leq
  walk_at "go"
  rw [eqv_int, List.length_map, List.length_map]
  refine wp_if (fun h => ?_) (fun h => ?_)
  · walk_at "go"
    have h : a.length ≠ b.length := by
      intro e
      rw [e] at h
      simp at h
    rw [leqB_len h]
    exact ⟨rfl, rfl⟩
  · have h : a.length = b.length := by
      simp at h
      omega
    walk_at "go"
    rw [List.length_map]
    refine wp_pos (okR (by omega)) ?_
    walk_at "go"
    refine forGo_wp (its := ⟨rng 0 (a.length : Int), none⟩) (fun k env s => s = st ∧ (∃ u, env = [some (tT a), some (tT b), u]) ∧ leqB a b = leqB (a.drop k) (b.drop k)) _ (fun k x env s hx hI => ?_) (fun env s hI => ?_) ⟨rfl, ⟨_, rfl⟩, rfl⟩
    · obtain ⟨rfl, ⟨u, rfl⟩, hl⟩ := hI
      obtain ⟨hk, rfl⟩ := rng_get hx
      refine ⟨Its.ok_none, ?_⟩
      refine wp_eq rfl ?_
      walk_at "go"
      rw [tup_ix hk]
      walk_at "go"
      rw [tup_ix (a := b) (by omega)]
      walk_at "go"
      rw [leqB_drop hk (by omega)] at hl
      refine wp_if (fun h1 => ?_) (fun h1 => ?_)
      · walk_at "go"
        rw [hl]
        have : ¬ a[k] ≤ b[k] := by simpa using h1
        rw [decide_eq_false this]
        exact ⟨rfl, rfl⟩
      · walk_at "go"
        have : a[k] ≤ b[k] := by simpa using h1
        rw [decide_eq_true this] at hl
        exact ⟨rfl, ⟨_, rfl⟩, hl⟩
    · obtain ⟨rfl, ⟨u, rfl⟩, hl⟩ := hI
      refine ⟨Its.ok_none, ?_⟩
      walk_at "go"
      rw [rng_len, List.drop_length, h, List.drop_length] at hl
      rw [hl]
      exact ⟨rfl, rfl⟩
/-! C0m: a drawn time -/
theorem moment_wp {p size : Nat} {st : Sto} {span : Int} {Q : PV → Sto → Prop} (h : Pool p st) (hs : 0 < span) (hz : size ≤ 1000) (q : ∀ a st', a.length = size → (∀ x ∈ a, 0 ≤ x ∧ x < span) → Dr p st st' → Q (tT a) st') : wp (f_law_moment [.loc p, .int size, .int span] st) Q := by
  unfold f_law_moment
  refine wp_runF rfl ?_
  show wp (D_law_moment [some (.loc p), some (.int size), some (.int span), none] st) _
  unfold D_law_moment
  walk_at "go"
  refine wp_pos (okR (by omega)) ?_
  walk_at "go"
  refine lcGo_wp (its := ⟨rng 0 (size : Int), none⟩) (fun k done s => Dr p st s ∧ ∃ a : List Int, done = a.map .int ∧ a.length = k ∧ ∀ x ∈ a, 0 ≤ x ∧ x < span) _ (fun k x done s hx hI => ?_) (fun done s hI => ?_) ⟨.refl h, [], rfl, rfl, fun x hx => by cases hx⟩
  · obtain ⟨d, a, rfl, rfl, hb⟩ := hI
    refine ⟨Its.ok_none, ?_⟩
    walk_at "go"
    refine draw_wp (h.dr d) hs fun r st' h0 h1 d' => ?_
    refine wp_set (by rw [d'.nxt]) (lb_int _ _) ?_
    refine ⟨d.trans d', a ++ [r], by rw [List.map_append]; rfl, by rw [List.length_append]; rfl, fun x hx => ?_⟩
    rcases List.mem_append.mp hx with hx | hx
    · exact hb x hx
    · rw [List.mem_singleton] at hx
      subst hx
      exact ⟨h0, h1⟩
  · obtain ⟨d, a, rfl, ha, hb⟩ := hI
    rw [rng_len] at ha
    refine ⟨Its.ok_none, ?_⟩
    refine wp_eq (mkV_eq (okL (by rw [List.length_map]; omega))) ?_
    walk_at "go"
    refine wp_eq (a := tT a) (s := s) (mkT_eq (okL (by rw [List.length_map]; omega))) ?_
    walk_at "go"
    refine wp_eq (fin_val tT_lb) ?_
    rw [d.restr]
    exact q a s ha hb d
/-! W1 of k01: the program's defs -/
def Tm (n : Nat) (t : List Int) : Prop := t.length = n ∧ ∀ c ∈ t, 0 ≤ c ∧ c ≤ 99
def Tms (n : Nat) (ts : List (List Int)) : Prop := ∀ t ∈ ts, Tm n t
theorem tupsOf_map : ∀ ts : List (List Int), tupsOf (ts.map tT) = some ts
  | [] => rfl
  | t :: r => by
    show (match intsOf (t.map .int), tupsOf (r.map tT) with | some ns, some ks => some (ns :: ks) | _, _ => none) = _
    rw [intsOf_map, tupsOf_map r]
theorem okTs_of {n : Nat} {ts : List (List Int)} (hn : 1 ≤ n) (hz : ts.length < 64) (h : Tms n ts) : okTs ts = true := by
  rw [okTs_iff]
  refine ⟨hz, n, hn, fun k hk => ⟨(h k hk).1, fun c hc => ?_⟩⟩
  have := (h k hk).2 c hc
  unfold bTup
  omega
theorem sset_eq {n : Nat} {ts : List (List Int)} {v : PV} {st : Sto} (hn : 1 ≤ n) (hz : ts.length < 64) (h : Tms n ts) (hv : lstOf st v = some (ts.map tT)) : bSortedSet false [v] st = some (.lst ((srt ts).map tT), st) := by
  show (match lstOf st v with | some xs => (match tupsOf xs with | some ks => if okTs ks then mkL false ((sortT (uniqT ks)).map tupP) st else none | none => none) | none => none) = _
  rw [hv]
  show (match tupsOf (ts.map tT) with | some ks => if okTs ks then mkL false ((sortT (uniqT ks)).map tupP) st else none | none => none) = _
  rw [tupsOf_map]
  show (if okTs ts then mkL false ((sortT (uniqT ts)).map tupP) st else none) = _
  rw [if_pos (okTs_of hn hz h)]
  have : ∀ l : List (List Int), (uniqT l).length ≤ l.length := by
    intro l
    induction l with
    | nil => exact Nat.le_refl _
    | cons x r ih =>
      show (if x ∈ r then uniqT r else x :: uniqT r).length ≤ _
      split
      · rw [List.length_cons]; omega
      · rw [List.length_cons, List.length_cons]; omega
  refine mkV_eq (okL ?_)
  rw [List.length_map, (sortT_perm _).length_eq]
  have := this ts
  omega
theorem sorted_eq {m : Bool} {n : Nat} {ts : List (List Int)} {v : PV} {st : Sto} (hn : 1 ≤ n) (hz : ts.length < 64) (h : Tms n ts) (hv : lstOf st v = some (ts.map tT)) : bSorted m [v] st = mkL m ((sortT ts).map tT) st := by
  show (match lstOf st v with | some xs => (match intsOf xs with | some ns => if ns.length < 64 then mkL m ((sortI ns).map .int) st else none | none => match tupsOf xs with | some ks => if okTs ks then mkL m ((sortT ks).map tupP) st else none | none => none) | none => none) = _
  rw [hv]
  cases ts with
  | nil =>
    have e1 : sortI [] = [] := List.perm_nil.mp (List.mergeSort_perm [] _)
    have e2 : sortT [] = [] := List.perm_nil.mp (sortT_perm [])
    show (if ([] : List Int).length < 64 then mkL m ((sortI []).map .int) st else none) = _
    rw [if_pos (by decide), e1, e2]
    rfl
  | cons t r =>
    show (match tupsOf ((t :: r).map tT) with | some ks => if okTs ks then mkL m ((sortT ks).map tupP) st else none | none => none) = _
    rw [tupsOf_map]
    show (if okTs (t :: r) then mkL m ((sortT (t :: r)).map tupP) st else none) = _
    rw [if_pos (okTs_of hn hz h)]
    rfl
theorem covers_eq {ts : List (List Int)} {p : List Int} {v : PV} {st : Sto} (h : ∀ t ∈ ts, t.length ≤ 1000) (hv : lstOf st v = some (ts.map tT)) : f_covers [v, tT p] st = some (.bl (anyL ts p), st) := by
  unfold f_covers
  refine runF_eq rfl (lb_bl _ _) ?_
  show wp (D_covers [some v, some (tT p), none] st) _
  obtain ⟨src, i1, i2⟩ := itsOf_lst hv
  unfold D_covers
  walk_at "go"
  refine wp_eq i1 ?_
  walk_at "go"
  refine forGo_wp (its := ⟨ts.map tT, src⟩) (fun k env s => s = st ∧ (∃ u, env = [some v, some (tT p), u]) ∧ anyL ts p = anyL (ts.drop k) p) _ (fun k x env s hx hI => ?_) (fun env s hI => ?_) ⟨rfl, ⟨_, rfl⟩, rfl⟩
  · obtain ⟨rfl, ⟨u, rfl⟩, hl⟩ := hI
    obtain ⟨y, hy, hm, rfl⟩ := get_map hx
    have hk := (List.getElem?_eq_some_iff.mp hy).1
    have he := (List.getElem?_eq_some_iff.mp hy).2
    rw [List.drop_eq_getElem_cons hk, he] at hl
    have hl : anyL ts p = (leqB y p || anyL (ts.drop (k + 1)) p) := hl
    refine ⟨i2 _ fun _ _ => rfl, wp_eq rfl ?_⟩
    walk_at "go"
    refine wp_eq (leq_eq (h y hm)) ?_
    walk_at "go"
    refine wp_if (fun h1 => ?_) (fun h1 => ?_)
    · walk_at "go"
      rw [hl, h1]
      exact ⟨rfl, rfl⟩
    · walk_at "go"
      refine ⟨rfl, ⟨_, rfl⟩, ?_⟩
      rw [hl]
      cases e : leqB y p
      · rfl
      · exact absurd e h1
  · obtain ⟨rfl, ⟨u, rfl⟩, hl⟩ := hI
    refine ⟨i2 _ fun _ _ => rfl, ?_⟩
    walk_at "go"
    rw [List.drop_of_length_le (by rw [List.length_map]; exact Nat.le_refl _)] at hl
    rw [hl]
    exact ⟨rfl, rfl⟩
theorem under_eq {ts : List (List Int)} {p : List Int} {v : PV} {st : Sto} (h : p.length ≤ 1000) (hv : lstOf st v = some (ts.map tT)) : f_under [v, tT p] st = some (.bl (anyH ts p), st) := by
  unfold f_under
  refine runF_eq rfl (lb_bl _ _) ?_
  show wp (D_under [some v, some (tT p), none] st) _
  obtain ⟨src, i1, i2⟩ := itsOf_lst hv
  unfold D_under
  walk_at "go"
  refine wp_eq i1 ?_
  walk_at "go"
  refine forGo_wp (its := ⟨ts.map tT, src⟩) (fun k env s => s = st ∧ (∃ u, env = [some v, some (tT p), u]) ∧ anyH ts p = anyH (ts.drop k) p) _ (fun k x env s hx hI => ?_) (fun env s hI => ?_) ⟨rfl, ⟨_, rfl⟩, rfl⟩
  · obtain ⟨rfl, ⟨u, rfl⟩, hl⟩ := hI
    obtain ⟨y, hy, hm, rfl⟩ := get_map hx
    have hk := (List.getElem?_eq_some_iff.mp hy).1
    have he := (List.getElem?_eq_some_iff.mp hy).2
    rw [List.drop_eq_getElem_cons hk, he] at hl
    have hl : anyH ts p = (leqB p y || anyH (ts.drop (k + 1)) p) := hl
    refine ⟨i2 _ fun _ _ => rfl, wp_eq rfl ?_⟩
    walk_at "go"
    refine wp_eq (leq_eq h) ?_
    walk_at "go"
    refine wp_if (fun h1 => ?_) (fun h1 => ?_)
    · walk_at "go"
      rw [hl, h1]
      exact ⟨rfl, rfl⟩
    · walk_at "go"
      refine ⟨rfl, ⟨_, rfl⟩, ?_⟩
      rw [hl]
      cases e : leqB p y
      · rfl
      · exact absurd e h1
  · obtain ⟨rfl, ⟨u, rfl⟩, hl⟩ := hI
    refine ⟨i2 _ fun _ _ => rfl, ?_⟩
    walk_at "go"
    rw [List.drop_of_length_le (by rw [List.length_map]; exact Nat.le_refl _)] at hl
    rw [hl]
    exact ⟨rfl, rfl⟩
theorem srt_Tms {n : Nat} {ts : List (List Int)} (h : Tms n ts) : Tms n (srt ts) := fun t ht => h t (srt_mem.mp ht)
theorem srt_len {ts : List (List Int)} : (srt ts).length ≤ ts.length := by
  unfold srt
  rw [(sortT_perm _).length_eq]
  induction ts with
  | nil => exact Nat.le_refl _
  | cons x r ih =>
    show (if x ∈ r then uniqT r else x :: uniqT r).length ≤ _
    split
    · rw [List.length_cons]; omega
    · rw [List.length_cons, List.length_cons]; omega
theorem rows_lb {ts : List (List Int)} {b : Nat} : lbs b (ts.map tT) = true := lbs_map (fun _ => tT_lb) ts
theorem take_split {α : Type} {l : List α} {k : Nat} {y : α} (hy : l[k]? = some y) : l = l.take k ++ y :: l.drop (k + 1) ∧ l.take (k + 1) = l.take k ++ [y] := by
  obtain ⟨hk, he⟩ := List.getElem?_eq_some_iff.mp hy
  constructor
  · conv => lhs; rw [← List.take_append_drop k l, List.drop_eq_getElem_cons hk, he]
  · rw [List.take_add_one, hy]; rfl
theorem filter_take_len {α : Type} {p : α → Bool} {l : List α} {k : Nat} : ((l.take k).filter p).length ≤ l.length :=
  Nat.le_trans (List.length_filter_le _ _) (by rw [List.length_take]; omega)
theorem lowest_wp {n : Nat} {ts : List (List Int)} {v : PV} {st : Sto} {Q : PV → Sto → Prop} (hn : 1 ≤ n) (hn4 : n ≤ 1000) (hz : ts.length < 64) (h : Tms n ts) (hv : lstOf st v = some (ts.map tT)) (q : Q (.loc st.nxt) (st.alloc (.lst ((lowL ts).map tT)))) : wp (f_lowest [v] st) Q := by
  unfold f_lowest
  refine wp_runF rfl ?_
  show wp (D_lowest [some v, none, none] st) _
  have hv1 : lstOf (st.alloc (.lst [])) v = some (ts.map tT) := by
    cases v with
    | lst ys => exact hv
    | loc l =>
      have hv : (match st.cs l with | some (.lst xs) => some xs | _ => none) = some (ts.map tT) := hv
      show (match (st.alloc (.lst [])).cs l with | some (.lst xs) => some xs | _ => none) = _
      have : l ≠ st.nxt := fun e => by
        subst e
        rw [st.wf _ (Nat.le_refl _)] at hv; cases hv
      rw [Sto.alloc_ne this]
      exact hv
    | _ => cases hv
  unfold D_lowest
  refine wp_mb (wp_mb (wp_mb (wp_eq rfl ?_)))
  refine wp_eq (mkM_eq (by decide) (lbs_nil 0)) ?_
  walk_at "go"
  refine wp_eq (sset_eq hn hz h hv1) ?_
  walk_at "go"
  refine forGo_wp (its := ⟨(srt ts).map tT, none⟩) (fun k env s => (∃ u, env = [some v, some (.loc st.nxt), u]) ∧ s = st.alloc (.lst ((((srt ts).take k).filter (lowB Rl (srt ts))).map tT))) _ (fun k x env s hx hI => ?_) (fun env s hI => ?_) ⟨⟨_, rfl⟩, rfl⟩
  · obtain ⟨⟨u, rfl⟩, rfl⟩ := hI
    obtain ⟨y, hy, hm, rfl⟩ := get_map hx
    obtain ⟨e1, e2⟩ := take_split hy
    have hl := low_step Rl_tr (srt_nodup ts) (srt_low ts) e1
    refine ⟨Its.ok_none, wp_eq rfl ?_⟩
    walk_at "go"
    refine wp_eq (covers_eq (ts := ((srt ts).take k).filter (lowB Rl (srt ts))) (p := y) (fun t ht => ?_) (lst_loc Sto.alloc_get)) ?_
    · have : t ∈ srt ts := List.mem_of_mem_take (List.mem_filter.mp ht).1
      rw [(srt_Tms h t this).1]; exact hn4
    walk_at "go"
    have hl : anyL (((srt ts).take k).filter (lowB Rl (srt ts))) y = !lowB Rl (srt ts) y := hl
    rw [hl, Bool.not_not]
    refine wp_if (fun h1 => ?_) (fun h1 => ?_)
    · walk_at "go"
      refine wp_eq (loc_asL Sto.alloc_get) ?_
      walk_at "go"
      refine wp_eq (loc_append Sto.alloc_get ?_ tT_lb) ?_
      · rw [List.length_map, sizeLine_eq]
        have := filter_take_len (p := lowB Rl (srt ts)) (l := srt ts) (k := k)
        have := srt_len (ts := ts)
        omega
      walk_at "go"
      refine ⟨⟨_, rfl⟩, ?_⟩
      rw [Sto.alloc_set, e2, filter_snoc, if_pos h1, List.map_append]
      rfl
    · walk_at "go"
      refine ⟨⟨_, rfl⟩, ?_⟩
      rw [e2, filter_snoc, if_neg h1]
  · obtain ⟨⟨u, rfl⟩, rfl⟩ := hI
    refine ⟨Its.ok_none, ?_⟩
    walk_at "go"
    refine wp_eq (fin_loc (Nat.le_refl _) Sto.alloc_get) ?_
    rw [Sto.restr_alloc (Nat.le_refl _), Sto.restr_self]
    rw [List.take_of_length_le (by rw [List.length_map]; exact Nat.le_refl _)]
    exact q
theorem highest_wp {n : Nat} {ts : List (List Int)} {v : PV} {st : Sto} {Q : PV → Sto → Prop} (hn : 1 ≤ n) (hn4 : n ≤ 1000) (hz : ts.length < 64) (h : Tms n ts) (hv : lstOf st v = some (ts.map tT)) (q : Q (.loc st.nxt) (st.alloc (.lst ((highL ts).map tT)))) : wp (f_highest [v] st) Q := by
  unfold f_highest
  refine wp_runF rfl ?_
  show wp (D_highest [some v, none, none] st) _
  have hv1 : lstOf (st.alloc (.lst [])) v = some (ts.map tT) := by
    cases v with
    | lst ys => exact hv
    | loc l =>
      have hv : (match st.cs l with | some (.lst xs) => some xs | _ => none) = some (ts.map tT) := hv
      show (match (st.alloc (.lst [])).cs l with | some (.lst xs) => some xs | _ => none) = _
      have : l ≠ st.nxt := fun e => by
        subst e
        rw [st.wf _ (Nat.le_refl _)] at hv; cases hv
      rw [Sto.alloc_ne this]
      exact hv
    | _ => cases hv
  unfold D_highest
  refine wp_mb (wp_mb (wp_mb (wp_eq rfl ?_)))
  refine wp_eq (mkM_eq (by decide) (lbs_nil 0)) ?_
  walk_at "go"
  refine wp_eq (sset_eq hn hz h hv1) ?_
  walk_at "go"
  rw [← List.map_reverse]
  have hlen : (srt ts).reverse.length < 64 := by
    rw [List.length_reverse]
    have := srt_len (ts := ts)
    omega
  refine forGo_wp (its := ⟨(srt ts).reverse.map tT, none⟩) (fun k env s => (∃ u, env = [some v, some (.loc st.nxt), u]) ∧ s = st.alloc (.lst ((((srt ts).reverse.take k).filter (lowB Rh (srt ts).reverse)).map tT))) _ (fun k x env s hx hI => ?_) (fun env s hI => ?_) ⟨⟨_, rfl⟩, rfl⟩
  · obtain ⟨⟨u, rfl⟩, rfl⟩ := hI
    obtain ⟨y, hy, hm, rfl⟩ := get_map hx
    obtain ⟨e1, e2⟩ := take_split hy
    have hl := low_step Rh_tr (srt_rnodup ts) (srt_high ts) e1
    refine ⟨Its.ok_none, wp_eq rfl ?_⟩
    walk_at "go"
    refine wp_eq (under_eq (ts := ((srt ts).reverse.take k).filter (lowB Rh (srt ts).reverse)) (p := y) ?_ (lst_loc Sto.alloc_get)) ?_
    · rw [(srt_Tms h y (List.mem_reverse.mp hm)).1]; exact hn4
    walk_at "go"
    have hl : anyH (((srt ts).reverse.take k).filter (lowB Rh (srt ts).reverse)) y = !lowB Rh (srt ts).reverse y := hl
    rw [hl, Bool.not_not]
    refine wp_if (fun h1 => ?_) (fun h1 => ?_)
    · walk_at "go"
      refine wp_eq (loc_asL Sto.alloc_get) ?_
      walk_at "go"
      refine wp_eq (loc_append Sto.alloc_get ?_ tT_lb) ?_
      · rw [List.length_map, sizeLine_eq]
        have := filter_take_len (p := lowB Rh (srt ts).reverse) (l := (srt ts).reverse) (k := k)
        omega
      walk_at "go"
      refine ⟨⟨_, rfl⟩, ?_⟩
      rw [Sto.alloc_set, e2, filter_snoc, if_pos h1, List.map_append]
      rfl
    · walk_at "go"
      refine ⟨⟨_, rfl⟩, ?_⟩
      rw [e2, filter_snoc, if_neg h1]
  · obtain ⟨⟨u, rfl⟩, rfl⟩ := hI
    refine ⟨Its.ok_none, ?_⟩
    rw [List.take_of_length_le (show (srt ts).reverse.length ≤ ((srt ts).reverse.map tT).length by rw [List.length_map]; exact Nat.le_refl _)]
    walk_at "go"
    have hf : Tms n (highF ts) := fun t ht => h t (highF_mem.mp ht).1
    have hfl : (highF ts).length < 64 := Nat.lt_of_le_of_lt (List.length_filter_le _ _) hlen
    show wp (bSorted true [PV.loc st.nxt] (st.alloc (Cell.lst ((highF ts).map tT)))) _
    rw [sorted_eq (ts := highF ts) hn hfl hf (lst_loc Sto.alloc_get)]
    refine wp_eq (mkM_eq (okL (by rw [List.length_map, (sortT_perm _).length_eq]; omega)) rows_lb) ?_
    walk_at "go"
    refine wp_eq (fin_loc (by rw [Sto.alloc_nxt]; omega) Sto.alloc_get) ?_
    rw [Sto.restr_alloc (by rw [Sto.alloc_nxt]; omega), Sto.restr_alloc (Nat.le_refl _), Sto.restr_self]
    exact q
theorem settle_new {st : Sto} {xs : List PV} : settle st.nxt (.loc st.nxt) (st.alloc (.lst xs)) = some (.lst xs, st) := by
  unfold settle
  rw [PV.res, if_neg (Nat.lt_irrefl _), Sto.alloc_get, Sto.restr_alloc (Nat.le_refl _), Sto.restr_self]
  rfl
theorem wp_settle {b : Nat} {v v' : PV} {s s' : Sto} {X : Option (PV × Sto)} {Q : PV → Sto → Prop} (h : settle b v s = some (v', s')) (q : Q v' s') : wp (if false = true then X else settle b v s) Q := by
  rw [if_neg (by decide), h]
  exact wp_ret q
theorem is_frontier_eq {n : Nat} {ts : List (List Int)} {st : Sto} (hn : 1 ≤ n) (hn4 : n ≤ 1000) (hz : ts.length < 64) (h : Tms n ts) : f_is_frontier [.lst (ts.map tT)] st = some (.bl (decide (ts = lowL ts)), st) := by
  unfold f_is_frontier
  refine runF_eq rfl (lb_bl _ _) ?_
  show wp (D_is_frontier [some (.lst (ts.map tT)), none] st) _
  unfold D_is_frontier
  walk_at "go"
  refine forGo_wp (its := ⟨ts.map tT, none⟩) (fun k env s => s = st ∧ ∃ u, env = [some (.lst (ts.map tT)), u]) _ (fun k x env s hx hI => ?_) (fun env s hI => ?_) ⟨rfl, _, rfl⟩
  · obtain ⟨rfl, u, rfl⟩ := hI
    obtain ⟨y, hy, hm, rfl⟩ := get_map hx
    have h0 : 0 < ts.length := List.length_pos_of_mem hm
    refine ⟨Its.ok_none, wp_eq rfl ?_⟩
    walk_at "go"
    refine wp_eq (seq_ix rfl (i := 0) (x := tT ts[0]) (atI_nat (j := 0) (by rw [List.getElem?_map, List.getElem?_eq_getElem h0]; rfl))) ?_
    walk_at "go"
    rw [eqv_int, List.length_map, List.length_map, (h y hm).1, (h ts[0] (List.getElem_mem h0)).1, beq_self_eq_true]
    walk_at "go"
    exact ⟨rfl, _, rfl⟩
  · obtain ⟨rfl, u, rfl⟩ := hI
    refine ⟨Its.ok_none, ?_⟩
    walk_at "go"
    refine wp_eq (bList_v (v := .lst (ts.map tT)) rfl (by rw [List.length_map]; omega)) ?_
    walk_at "go"
    refine lowest_wp hn hn4 hz h rfl ?_
    refine wp_settle settle_new ?_
    refine wp_eq (cmpEq_rows (as := ts) (bs := lowL ts) rfl rfl) ?_
    rw [Bool.bne_false]
    walk_at "go"
    exact ⟨rfl, rfl⟩
end DL

namespace DL
open PySem L2
local macro_rules | `(tactic| walk_at "go") => `(tactic| repeat (first | refine wp_mb ?_ | with_reducible refine wp_mul (by first | assumption | (exact okMul_iff.mpr (by omega))) ?_ | with_reducible refine wp_mod (by first | assumption | (exact okMod_iff.mpr (by omega))) ?_ | with_reducible refine wp_div (by first | assumption | (exact okDiv_iff.mpr (by omega))) ?_ | with_reducible refine wp_pow (by first | assumption | (exact okPow_iff.mpr (by decide))) ?_ | ((with_reducible refine wp_set ?_ ?_ ?_); (focus rfl); (focus first | exact tT_lb | exact lb_int _ _ | exact lb_bl _ _ | exact lb_non _ | assumption)) | refine wp_eq rfl ?_))
/-! W2 of k01: the law's twins -/
/-- a comprehension with a test over a mapped list -/
theorem lc_filter {α : Type} {g0 : α → PV} {its : Its} {l : List α} {p : α → Bool} {f : α → PV} {g : DG} {t : DT} {e : DE} {env : Env} {st : Sto} (hi : its.items = l.map g0) (ok : its.ok st)
    (h : ∀ a ∈ l, ∃ e1, g (g0 a) env st = some (e1, st) ∧ t e1 st = some (p a, st) ∧ (p a = true → e e1 st = some (f a, st))) : lcGo its g t e env its.items st = some ((l.filter p).map f, st) := by
  have key : ∀ xs : List α, (∀ x ∈ xs, x ∈ l) → lcGo its g t e env (xs.map g0) st = some ((xs.filter p).map f, st) := by
    intro xs
    induction xs with
    | nil => intro _; rw [List.map_nil, lcGo, if_pos ok]; rfl
    | cons x r ih =>
      intro hx
      obtain ⟨e1, h1, h2, h3⟩ := h x (hx x List.mem_cons_self)
      rw [List.map_cons, lcGo, if_pos ok, h1, mb_some, h2, mb_some, List.filter_cons]
      cases hp : p x with
      | true =>
        rw [if_pos rfl, if_pos rfl, h3 hp, mb_some, ih fun y hy => hx y (List.mem_cons_of_mem _ hy), mb_some]
        rfl
      | false =>
        rw [if_neg (by decide), if_neg (by decide)]
        exact ih fun y hy => hx y (List.mem_cons_of_mem _ hy)
  rw [hi]
  exact key l fun _ z => z
theorem len_le_of_sub {α : Type} [DecidableEq α] : ∀ {l m : List α}, l.Nodup → (∀ x ∈ l, x ∈ m) → l.length ≤ m.length
  | [], _, _, _ => Nat.zero_le _
  | x :: l, m, hn, h => by
    rw [List.nodup_cons] at hn
    have hx : x ∈ m := h x List.mem_cons_self
    have := len_le_of_sub (l := l) (m := m.erase x) hn.2 fun y hy => (List.mem_erase_of_ne (fun (e : y = x) => hn.1 (e ▸ hy))).mpr (h y (List.mem_cons_of_mem _ hy))
    rw [List.length_erase_of_mem hx] at this
    have := List.length_pos_of_mem hx
    rw [List.length_cons]
    omega
/-- a list of truths -/
theorem in_bls {b neg : Bool} {l : List Bool} {st : Sto} : cmpIn neg (.bl b) (.lst (l.map .bl)) st = some (.bl ((l.any fun z => z == b) != neg), st) := by
  have flat : (l.map PV.bl).all flatP = true := by rw [List.all_map, List.all_eq_true]; intro _ _; rfl
  have anyf : ((l.map PV.bl).any fun z => eqP z (.bl b)) = (l.any fun z => z == b) := by
    induction l with
    | nil => rfl
    | cons x l ih =>
      rw [List.map_cons, List.any_cons, ih (by rw [List.all_map, List.all_eq_true]; intro _ _; rfl), List.any_cons]
      rfl
  show (if (flatP (.bl b) && (l.map PV.bl).all flatP) = true then some (PV.bl (((l.map PV.bl).any fun z => eqP z (.bl b)) != neg), st) else _) = _
  rw [flat, if_pos (show (flatP (.bl b) && true) = true from rfl), anyf]
def pairP (side : Bool) (t u : List Int) : PV := if side then .tup [tT t, tT u] else .tup [tT u, tT t]
theorem any_low_side (side : Bool) (ts : List (List Int)) (t : List Int) : (((ts.filter fun u => decide (u ≠ t)).map fun u => endR side u t).any fun z => z == true) = !lowB (endR side) ts t := by
  unfold lowB
  induction ts with
  | nil => rfl
  | cons x r ih =>
    rw [List.filter_cons, List.all_cons]
    by_cases e : x = t
    · have e2 : decide (x ≠ t) = false := decide_eq_false (fun z => z e)
      simp only [e2, Bool.false_eq_true, if_false]
      rw [ih, decide_eq_true e]
      rfl
    · have e2 : decide (x ≠ t) = true := decide_eq_true e
      simp only [e2, if_true]
      rw [List.map_cons, List.any_cons, ih, decide_eq_false e]
      cases endR side x t <;> cases List.all r (fun u => decide (u = t) || !endR side u t) <;> rfl
theorem ends_wp {n : Nat} {side : Bool} {ts : List (List Int)} {st : Sto} {Q : PV → Sto → Prop} (hn : 1 ≤ n) (hn4 : n ≤ 1000) (hz : ts.length < 64) (h : Tms n ts) (q : Q (.loc st.nxt) (st.alloc (.lst ((endsL side ts).map tT)))) : wp (f_law_ends [.lst (ts.map tT), .int (if side then 1 else 0)] st) Q := by
  unfold f_law_ends
  refine wp_runF rfl ?_
  show wp (D_law_ends [some (.lst (ts.map tT)), some (.int (if side then 1 else 0)), none, none, none, none, none] st) _
  have hsl : (sortT ts).length = ts.length := (sortT_perm ts).length_eq
  unfold D_law_ends
  refine wp_mb (wp_mb (wp_mb (wp_eq rfl ?_)))
  refine wp_eq (mkM_eq (by decide) (lbs_nil 0)) ?_
  walk_at "go"
  rw [sorted_eq (ts := ts) hn hz h rfl]
  refine wp_eq (mkV_eq (okL (by rw [List.length_map, hsl]; omega))) ?_
  walk_at "go"
  refine forGo_wp (its := ⟨(sortT ts).map tT, none⟩) (fun k env s => (∃ u3 u4 u5 u6, env = [some (.lst (ts.map tT)), some (.int (if side then 1 else 0)), some (.loc st.nxt), u3, u4, u5, u6]) ∧ ∃ f, s = st.alloc (.lst (f.map tT)) ∧ EndI side ts ((sortT ts).take k) f) _ (fun k x env s hx hI => ?_) (fun env s hI => ?_) ⟨⟨_, _, _, _, rfl⟩, [], rfl, .nil, .nil, fun x => by simp⟩
  · obtain ⟨⟨u3, u4, u5, u6, rfl⟩, f, rfl, hI⟩ := hI
    obtain ⟨y, hy, hm, rfl⟩ := get_map hx
    obtain ⟨e1, e2⟩ := take_split hy
    have hyn : y.length = n := (h y ((sortT_perm ts).mem_iff.mp hm)).1
    refine ⟨Its.ok_none, wp_eq rfl ?_⟩
    walk_at "go"
    refine wp_eq (lc_filter (its := ⟨ts.map tT, none⟩) (l := ts) (p := fun u => decide (u ≠ y)) (f := pairP side y) rfl Its.ok_none fun a ha => ⟨_, rfl, eq_of_wp ?_, fun hp => eq_of_wp ?_⟩) ?_
    · walk_at "go"
      refine wp_eq cmpEq_tT ?_
      refine wp_ret ⟨?_, rfl⟩
      by_cases e : a = y
      · subst e; simp
      · simp [e]
    · walk_at "go"
      refine wp_eq (a := pairP side y a) (s := st.alloc (.lst (f.map tT))) ?_ ⟨rfl, rfl⟩
      cases side <;> rfl
    have hpl : (((ts.filter fun u => decide (u ≠ y)).map (pairP side y))).length ≤ 1000000 := by
      rw [List.length_map]
      have := List.length_filter_le (fun u => decide (u ≠ y)) ts
      omega
    refine wp_eq (mkV_eq (okL hpl)) ?_
    walk_at "go"
    refine wp_eq (lc_items (its := ⟨(ts.filter fun u => decide (u ≠ y)).map (pairP side y), none⟩) (((ts.filter fun u => decide (u ≠ y)).map fun u => endR side u y).map .bl) Its.ok_none (by rw [List.length_map, List.length_map]; exact (List.length_map _).symm) fun j x hx => ?_) ?_
    · obtain ⟨a, ha, hm, rfl⟩ := get_map hx
      have han : a.length = n := (h a (List.mem_filter.mp hm).1).1
      refine ⟨_, .bl (endR side a y), rfl, by rw [List.getElem?_map, List.getElem?_map, ha]; rfl, eq_of_wp ?_⟩
      cases side
      · walk_at "go"
        refine wp_eq (law_leq_eq (by omega) (by omega)) ?_
        walk_at "go"
        exact ⟨rfl, rfl⟩
      · walk_at "go"
        refine wp_eq (law_leq_eq (by omega) (by omega)) ?_
        walk_at "go"
        exact ⟨rfl, rfl⟩
    refine wp_eq (mkV_eq (okL (by rw [List.length_map, List.length_map]; rw [List.length_map] at hpl; exact hpl))) ?_
    refine wp_eq in_bls ?_
    rw [any_low_side]
    have hst := hI.step e1
    rw [← e2] at hst
    unfold endStep at hst
    have hfl : f.length ≤ k := by
      have h1 := perm_uniqT (ks := f) hI.1 fun _ => Iff.rfl
      have h2 : ∀ x ∈ f, x ∈ (sortT ts).take k := fun x hx => ((hI.2.2 x).mp hx).1
      have := len_le_of_sub hI.1 h2
      rw [List.length_take] at this
      omega
    have hk : k < ts.length := by
      have := (List.getElem?_eq_some_iff.mp hy).1
      omega
    cases hl : lowB (endR side) ts y with
    | false =>
      rw [hl, Bool.false_and, if_neg Bool.false_ne_true] at hst
      walk_at "go"
      exact ⟨⟨_, _, _, _, rfl⟩, f, rfl, hst⟩
    | true =>
      rw [hl, Bool.true_and] at hst
      walk_at "go"
      refine wp_eq (in_rows (ks := f) (lst_loc Sto.alloc_get)) ?_
      walk_at "go"
      by_cases hm2 : y ∈ f
      · rw [decide_eq_true hm2] at hst ⊢
        rw [if_neg (by decide)] at hst
        walk_at "go"
        exact ⟨⟨_, _, _, _, rfl⟩, f, rfl, hst⟩
      · rw [decide_eq_false hm2] at hst ⊢
        rw [if_pos (by decide)] at hst
        walk_at "go"
        refine wp_eq (loc_asL Sto.alloc_get) ?_
        walk_at "go"
        refine wp_eq (loc_append Sto.alloc_get ?_ tT_lb) ?_
        · rw [List.length_map, sizeLine_eq]; omega
        walk_at "go"
        refine ⟨⟨_, _, _, _, rfl⟩, f ++ [y], ?_, hst⟩
        rw [Sto.alloc_set, List.map_append]
        rfl
  · obtain ⟨⟨u3, u4, u5, u6, rfl⟩, f, rfl, hI⟩ := hI
    refine ⟨Its.ok_none, ?_⟩
    rw [List.take_of_length_le (show (sortT ts).length ≤ ((sortT ts).map tT).length by rw [List.length_map]; exact Nat.le_refl _)] at hI
    rw [hI.done]
    walk_at "go"
    refine wp_eq (fin_loc (Nat.le_refl _) Sto.alloc_get) ?_
    rw [Sto.restr_alloc (Nat.le_refl _), Sto.restr_self]
    exact q
theorem ask_wp {n : Nat} {side : Bool} {ts : List (List Int)} {v : PV} {st : Sto} {Q : PV → Sto → Prop} (hn : 1 ≤ n) (hn4 : n ≤ 1000) (hz : ts.length < 64) (h : Tms n ts) (hv : lstOf st v = some (ts.map tT)) (q : Q (.loc st.nxt) (st.alloc (.lst ((endsL side ts).map tT)))) : wp (f_law_ask [.int (if side then 1 else 0), v] st) Q := by
  unfold f_law_ask
  refine wp_runF rfl ?_
  show wp (D_law_ask [some (.int (if side then 1 else 0)), some v] st) _
  unfold D_law_ask
  cases side
  · walk_at "go"
    refine lowest_wp hn hn4 hz h hv ?_
    walk_at "go"
    refine wp_eq (fin_loc (Nat.le_refl _) Sto.alloc_get) ?_
    rw [Sto.restr_alloc (Nat.le_refl _), Sto.restr_self]
    exact q
  · walk_at "go"
    refine highest_wp hn hn4 hz h hv ?_
    walk_at "go"
    refine wp_eq (fin_loc (Nat.le_refl _) Sto.alloc_get) ?_
    rw [Sto.restr_alloc (Nat.le_refl _), Sto.restr_self]
    exact q
/-- new places alone -/
def Ext (st s : Sto) : Prop := st.nxt ≤ s.nxt ∧ s.restr st.nxt = st
theorem Ext.refl (st : Sto) : Ext st st := ⟨Nat.le_refl _, Sto.restr_self st⟩
theorem Ext.alloc {st s : Sto} {c : Cell} (h : Ext st s) : Ext st (s.alloc c) := ⟨by rw [Sto.alloc_nxt]; exact Nat.le_succ_of_le h.1, by rw [Sto.restr_alloc h.1]; exact h.2⟩
theorem Ext.set {st s : Sto} {l : Nat} {c : Cell} (h : Ext st s) (hl : st.nxt ≤ l) : Ext st (s.set l c) := ⟨h.1, by rw [Sto.restr_set_ge hl]; exact h.2⟩
theorem plain_rowsM {ts : List (List Int)} {n d : Nat} (hl : ts.length ≤ 1000000) (ht : Tms n ts) (hn : n ≤ 1000) : plainP (d + 2) (.lst (ts.map tT)) = true := by
  show (decide ((ts.map tT).length ≤ 1000000) && (ts.map tT).all (plainP (d + 1))) = true
  have e : ∀ x ∈ ts, (plainP (d + 1) ∘ tT) x = true := fun x hx => plain_tT (d := d) (by rw [(ht x hx).1]; omega)
  rw [List.length_map, decide_eq_true hl, List.all_map, List.all_eq_true.mpr e]
  rfl
theorem endsL_len {side : Bool} {ts : List (List Int)} : (endsL side ts).length ≤ ts.length := by
  have h2 : ∀ x ∈ endsL side ts, x ∈ ts := fun x hx => (endsL_mem.mp hx).1
  exact len_le_of_sub (endsL_nodup side ts) h2
theorem endsL_Tms {side : Bool} {n : Nat} {ts : List (List Int)} (h : Tms n ts) : Tms n (endsL side ts) := fun t ht => h t (endsL_mem.mp ht).1
theorem ends_right_eq {n : Nat} {side : Bool} {ts : List (List Int)} {extra : List Int} {st : Sto} (hn : 1 ≤ n) (hn4 : n ≤ 1000) (hz : ts.length < 64) (h : Tms n ts) : wp (f_law_ends_right [.lst (ts.map tT), .int (if side then 1 else 0), tT extra] st) fun v s => v = .bl true ∧ s = st := by
  unfold f_law_ends_right
  refine wp_runF rfl ?_
  show wp (D_law_ends_right [some (.lst (ts.map tT)), some (.int (if side then 1 else 0)), some (tT extra), none, none, none, none] st) _
  unfold D_law_ends_right
  walk_at "go"
  refine ends_wp hn hn4 hz h ?_
  refine wp_settle settle_new ?_
  walk_at "go"
  have hrows : ∀ (k : Nat) y, ([.tup [.lst (ts.map tT), .lst ((endsL side ts).map tT)], .tup [.lst ((endsL side ts).map tT), .lst ((endsL side ts).map tT)], .tup [.lst [], .lst []]] : List PV)[k]? = some y → ∃ a, y = .tup [.lst (a.map tT), .lst ((endsL side a).map tT)] ∧ Tms n a ∧ a.length < 64 := fun k y hy => by
    have hm := List.mem_of_getElem? hy
    simp only [List.mem_cons, List.not_mem_nil, or_false] at hm
    rcases hm with rfl | rfl | rfl
    · exact ⟨ts, rfl, h, hz⟩
    · exact ⟨endsL side ts, by rw [endsL_idem], endsL_Tms h, Nat.lt_of_le_of_lt endsL_len hz⟩
    · exact ⟨[], by rw [endsL_nil]; rfl, fun t (z : t ∈ []) => (by cases z), by decide⟩
  refine forGo_wp (its := ⟨[.tup [.lst (ts.map tT), .lst ((endsL side ts).map tT)], .tup [.lst ((endsL side ts).map tT), .lst ((endsL side ts).map tT)], .tup [.lst [], .lst []]], none⟩) (fun k env s => Ext st s ∧ ∃ u4 u5 u6, env = [some (.lst (ts.map tT)), some (.int (if side then 1 else 0)), some (tT extra), some (.lst ((endsL side ts).map tT)), u4, u5, u6]) _ (fun k y env s hy hI => ?_) (fun env s hI => ?_) ⟨.refl st, _, _, _, rfl⟩
  · obtain ⟨hE, u4, u5, u6, rfl⟩ := hI
    obtain ⟨a, rfl, ha, hal⟩ := hrows k y hy
    have hel : (endsL side a).length < 64 := Nat.lt_of_le_of_lt endsL_len hal
    have hea : Tms n (endsL side a) := endsL_Tms ha
    refine ⟨Its.ok_none, wp_eq rfl ?_⟩
    walk_at "go"
    refine wp_eq (bList_v (v := .lst (a.map tT)) rfl (by rw [List.length_map]; omega)) ?_
    walk_at "go"
    refine ask_wp hn hn4 hal ha rfl ?_
    have hE1 : Ext st (s.alloc (.lst ((endsL side a).map tT))) := hE.alloc
    have hc : (s.alloc (.lst ((endsL side a).map tT))).cs s.nxt = some (.lst ((endsL side a).map tT)) := Sto.alloc_get
    have hle : st.nxt ≤ s.nxt := hE.1
    generalize s.alloc (.lst ((endsL side a).map tT)) = s1 at hE1 hc ⊢
    generalize s.nxt = l at hc hle ⊢
    clear hE
    walk_at "go"
    refine wp_eq (same_ok (v := .lst ((endsL side a).map tT)) (derf_of_lst (lst_loc hc)) rfl (plain_rowsM (by omega) hea hn4)) ?_
    walk_at "go"
    refine wp_eq (loc_asL hc) ?_
    walk_at "go"
    refine wp_eq (loc_append hc (by rw [List.length_map, sizeLine_eq]; omega) tT_lb) ?_
    have hE2 := hE1.set (c := .lst ((endsL side a).map tT ++ [tT extra])) hle
    generalize s1.set l (.lst ((endsL side a).map tT ++ [tT extra])) = s2 at hE2 ⊢
    walk_at "go"
    refine wp_eq (same_ok (v := .lst (a.map tT)) rfl rfl (plain_rowsM (by omega) ha hn4)) ?_
    walk_at "go"
    refine ask_wp hn hn4 hal ha rfl ?_
    refine wp_settle settle_new ?_
    walk_at "go"
    refine wp_eq (same_ok (v := .lst ((endsL side a).map tT)) rfl rfl (plain_rowsM (by omega) hea hn4)) ?_
    walk_at "go"
    exact ⟨hE2, _, _, _, rfl⟩
  · obtain ⟨hE, u4, u5, u6, rfl⟩ := hI
    refine ⟨Its.ok_none, ?_⟩
    walk_at "go"
    exact ⟨rfl, hE.2⟩
end DL

namespace DL
open PySem L2
local macro_rules | `(tactic| walk_at "go") => `(tactic| repeat (first | refine wp_mb ?_ | with_reducible refine wp_mul (by first | assumption | (exact okMul_iff.mpr (by omega))) ?_ | with_reducible refine wp_mod (by first | assumption | (exact okMod_iff.mpr (by omega))) ?_ | with_reducible refine wp_div (by first | assumption | (exact okDiv_iff.mpr (by omega))) ?_ | with_reducible refine wp_pow (by first | assumption | (exact okPow_iff.mpr (by decide))) ?_ | ((with_reducible refine wp_set ?_ ?_ ?_); (focus rfl); (focus first | exact tT_lb | exact lb_int _ _ | exact lb_bl _ _ | exact lb_non _ | assumption)) | refine wp_eq rfl ?_))
/-! C1t: tuples, pieces -/
theorem tup_nat {a : List Int} {i : Int} {k : Nat} (hi : i = (k : Int)) (h : k < a.length) {st : Sto} : opIx (tT a) (.int i) st = some (.int a[k], st) := by
  subst hi
  exact seq_ix (v := tT a) rfl (ints_at h)
theorem cutT_to {a : List Int} {i : Int} {k : Nat} (hi : i = (k : Int)) (h : k ≤ a.length) : cutP (a.map PV.int) none (some i) = (a.take k).map PV.int := by
  subst hi
  rw [cut_to (by rw [List.length_map]; exact h), List.map_take]
theorem cutT_from {a : List Int} {i : Int} {k : Nat} (hi : i = (k : Int)) (h : k ≤ a.length) : cutP (a.map PV.int) (some i) none = (a.drop k).map PV.int := by
  subst hi
  rw [cut_from (by rw [List.length_map]; exact h), List.map_drop]
theorem getD_at {a : List Int} {k : Nat} (h : k < a.length) : a.getD k 0 = a[k] := by rw [List.getD_eq_getElem?_getD, List.getElem?_eq_getElem h]; rfl
theorem cutL_to {xs : List PV} {i : Int} {k : Nat} (hi : i = (k : Int)) (h : k ≤ xs.length) : cutP xs none (some i) = xs.take k := by
  subst hi
  exact cut_to h
theorem cutL_from {xs : List PV} {i : Int} {k : Nat} (hi : i = (k : Int)) (h : k ≤ xs.length) : cutP xs (some i) none = xs.drop k := by
  subst hi
  exact cut_from h
/-! W3 of k01: what is met, fronts, draws -/
theorem any_true {α : Type} (l : List α) (f : α → Bool) : (((l.map f).any fun z => z == true) != false) = l.any f := by
  rw [Bool.bne_false, List.any_map]
  congr 1
  funext x
  show (f x == true) = f x
  cases f x <;> rfl
theorem met_right_eq {n : Nat} {ts : List (List Int)} {probe other : List Int} {st : Sto} (hn : 1 ≤ n) (hn4 : n ≤ 1000) (hz : ts.length < 64) (h : Tms n ts) (hp : probe.length = n) (ho : other.length ≠ n) (ho4 : other.length ≤ 1000) : wp (f_law_met_right [.lst (ts.map tT), tT probe, tT other] st) fun v s => v = .bl true ∧ s = st := by
  unfold f_law_met_right
  refine wp_runF rfl ?_
  show wp (D_law_met_right [some (.lst (ts.map tT)), some (tT probe), some (tT other), none, none, none, none] st) _
  have h1000 : ∀ t ∈ ts, t.length ≤ 1000 := fun t ht => by rw [(h t ht).1]; exact hn4
  have hbl : ∀ (f : List Int → Bool), ((ts.map f).map PV.bl).length ≤ 1000000 := fun f => by rw [List.length_map, List.length_map]; omega
  unfold D_law_met_right
  walk_at "go"
  refine wp_eq (lc_items (its := ⟨ts.map tT, none⟩) ((ts.map fun u => leqB u probe).map .bl) Its.ok_none (by rw [List.length_map, List.length_map]; exact (List.length_map _).symm) fun j x hx => ?_) ?_
  · obtain ⟨a, ha, hm, rfl⟩ := get_map hx
    refine ⟨_, .bl (leqB a probe), rfl, by rw [List.getElem?_map, List.getElem?_map, ha]; rfl, eq_of_wp ?_⟩
    walk_at "go"
    refine wp_eq (law_leq_eq (by rw [(h a hm).1, hp]) (h1000 a hm)) ?_
    walk_at "go"
    exact ⟨rfl, rfl⟩
  refine wp_eq (mkV_eq (okL (hbl _))) ?_
  refine wp_eq in_bls ?_
  rw [any_true]
  walk_at "go"
  refine wp_eq (lc_items (its := ⟨ts.map tT, none⟩) ((ts.map fun u => leqB probe u).map .bl) Its.ok_none (by rw [List.length_map, List.length_map]; exact (List.length_map _).symm) fun j x hx => ?_) ?_
  · obtain ⟨a, ha, hm, rfl⟩ := get_map hx
    refine ⟨_, .bl (leqB probe a), rfl, by rw [List.getElem?_map, List.getElem?_map, ha]; rfl, eq_of_wp ?_⟩
    walk_at "go"
    refine wp_eq (law_leq_eq (by rw [(h a hm).1, hp]) (by omega)) ?_
    walk_at "go"
    exact ⟨rfl, rfl⟩
  refine wp_eq (mkV_eq (okL (hbl _))) ?_
  refine wp_eq in_bls ?_
  rw [any_true]
  walk_at "go"
  refine wp_eq (bList_v (v := .lst (ts.map tT)) rfl (by rw [List.length_map]; omega)) ?_
  walk_at "go"
  refine wp_eq (covers_eq h1000 rfl) ?_
  walk_at "go"
  refine wp_eq (same_ok (v := .bl (anyL ts probe)) rfl rfl plain_bl) ?_
  walk_at "go"
  refine wp_eq (under_eq (by omega) rfl) ?_
  walk_at "go"
  refine wp_eq (same_ok (v := .bl (anyH ts probe)) rfl rfl plain_bl) ?_
  walk_at "go"
  refine wp_eq (bList_v (v := .lst (ts.map tT)) rfl (by rw [List.length_map]; omega)) ?_
  walk_at "go"
  refine lowest_wp hn hn4 hz h rfl ?_
  refine wp_settle settle_new ?_
  walk_at "go"
  refine wp_eq (covers_eq (ts := lowL ts) (fun t ht => h1000 t (lowL_mem.mp ht).1) rfl) ?_
  rw [any_low]
  walk_at "go"
  refine wp_eq (same_ok (v := .bl (anyL ts probe)) rfl rfl plain_bl) ?_
  walk_at "go"
  refine wp_eq (bList_v (v := .lst (ts.map tT)) rfl (by rw [List.length_map]; omega)) ?_
  walk_at "go"
  refine highest_wp hn hn4 hz h rfl ?_
  refine wp_settle settle_new ?_
  walk_at "go"
  refine wp_eq (under_eq (ts := highL ts) (by omega) rfl) ?_
  rw [any_high]
  walk_at "go"
  refine wp_eq (same_ok (v := .bl (anyH ts probe)) rfl rfl plain_bl) ?_
  walk_at "go"
  obtain ⟨o1, o2⟩ := any_other (p := other) (fun t ht => (h t ht).1) ho
  refine wp_eq (covers_eq h1000 rfl) ?_
  rw [o1]
  walk_at "go"
  refine wp_eq (same_ok (v := .bl false) rfl rfl plain_bl) ?_
  walk_at "go"
  refine wp_eq (under_eq ho4 rfl) ?_
  rw [o2]
  walk_at "go"
  refine wp_eq (same_ok (v := .bl false) rfl rfl plain_bl) ?_
  walk_at "go"
  refine wp_eq (covers_eq (ts := []) (fun _ z => by cases z) rfl) ?_
  walk_at "go"
  refine wp_eq (same_ok (v := .bl false) rfl rfl plain_bl) ?_
  walk_at "go"
  refine wp_eq (under_eq (ts := []) (by omega) rfl) ?_
  walk_at "go"
  refine wp_eq (same_ok (v := .bl false) rfl rfl plain_bl) ?_
  walk_at "go"
  refine wp_eq (same_ok (v := .lst (ts.map tT)) rfl rfl (plain_rowsM (by omega) h hn4)) ?_
  walk_at "go"
  exact ⟨rfl, Sto.restr_self st⟩
theorem cmpLt_tT {a b : List Int} {st : Sto} : cmpLt (tT a) (tT b) st = some (.bl (HT.lexLt a b), st) := by
  show (match intsOf (a.map .int), intsOf (b.map .int) with | some ns, some ms => some (PV.bl (HT.lexLt ns ms), st) | _, _ => none) = _
  rw [intsOf_map, intsOf_map]
theorem front_eq {n : Nat} {ts : List (List Int)} {st : Sto} (hn4 : n ≤ 1000) (hz : ts.length < 64) (h : Tms n ts) : f_law_front [.lst (ts.map tT)] st = some (.bl (decide (ts = lowL ts)), st) := by
  unfold f_law_front
  refine runF_eq rfl (lb_bl _ _) ?_
  show wp (D_law_front [some (.lst (ts.map tT)), none, none] st) _
  have hb : decide (ts = lowL ts) = true ↔ ts.Pairwise frontR := by rw [decide_eq_true_iff, front_iff]
  have hf : ∀ i j (hi : i < ts.length) (hj : j < ts.length), i < j → ¬ frontR ts[i] ts[j] → decide (ts = lowL ts) = false := fun i j hi hj hij hn => by
    cases e : decide (ts = lowL ts) with
    | false => rfl
    | true => exact absurd ((List.pairwise_iff_getElem.mp (hb.mp e)) i j hi hj hij) hn
  unfold D_law_front
  walk_at "go"
  rw [List.length_map]
  refine wp_pos (okR (by omega)) ?_
  walk_at "go"
  refine forGo_wp (its := ⟨rng 0 (ts.length : Int), none⟩) (fun k env s => s = st ∧ (∃ u1 u2, env = [some (.lst (ts.map tT)), u1, u2]) ∧ ∀ i j (hi : i < ts.length) (hj : j < ts.length), i < j → j < k → frontR ts[i] ts[j]) _ (fun k x env s hx hI => ?_) (fun env s hI => ?_) ⟨rfl, ⟨_, _, rfl⟩, fun i j _ _ _ z => absurd z (Nat.not_lt_zero _)⟩
  · obtain ⟨rfl, ⟨u1, u2, rfl⟩, hI⟩ := hI
    obtain ⟨hk, rfl⟩ := rng_get hx
    refine ⟨Its.ok_none, wp_eq rfl ?_⟩
    walk_at "go"
    show wp (mkL false (cutP (ts.map tT) none (some ((0 : Int) + (k : Int)))) s) _
    rw [cutL_to (k := k) (by omega) (by rw [List.length_map]; omega), ← List.map_take]
    refine wp_eq (mkV_eq (okL (by rw [List.length_map, List.length_take]; omega))) ?_
    walk_at "go"
    have hat : opIx (.lst (ts.map tT)) (.int ((0 : Int) + (k : Int))) s = some (tT ts[k], s) := seq_ix rfl (by rw [Int.zero_add]; exact atI_nat (by rw [List.getElem?_map, List.getElem?_eq_getElem hk]; rfl))
    refine forGo_wp (its := ⟨(ts.take k).map tT, none⟩) (fun j env s' => s' = s ∧ (∃ u2, env = [some (.lst (ts.map tT)), some (.int ((0 : Int) + (k : Int))), u2]) ∧ ∀ i (hi : i < ts.length), i < j → i < k → frontR ts[i] ts[k]) _ (fun j x env s' hx hJ => ?_) (fun env s' hJ => ?_) ⟨rfl, ⟨_, rfl⟩, fun i _ z => absurd z (Nat.not_lt_zero _)⟩
    · obtain ⟨rfl, ⟨u2, rfl⟩, hJ⟩ := hJ
      obtain ⟨y, hy, hm, rfl⟩ := get_map hx
      rw [List.getElem?_take] at hy
      split at hy
      case isFalse => cases hy
      rename_i hjk
      have hjl : j < ts.length := by omega
      rw [List.getElem?_eq_getElem hjl] at hy
      cases hy
      refine ⟨Its.ok_none, wp_eq rfl ?_⟩
      walk_at "go"
      refine wp_eq hat ?_
      refine wp_eq cmpLt_tT ?_
      have e1 : (ts[j]).length = n := (h _ (List.getElem_mem hjl)).1
      have e2 : (ts[k]).length = n := (h _ (List.getElem_mem hk)).1
      cases q1 : HT.lexLt ts[j] ts[k] with
      | false =>
        walk_at "go"
        refine ⟨?_, rfl⟩
        rw [hf j k hjl hk hjk (fun z => by rw [z.1] at q1; cases q1)]
      | true =>
        walk_at "go"
        refine wp_eq hat ?_
        walk_at "go"
        refine wp_eq (law_leq_eq (by rw [e1, e2]) (by omega)) ?_
        cases q2 : leqB ts[j] ts[k] with
        | true =>
          walk_at "go"
          refine ⟨?_, rfl⟩
          rw [hf j k hjl hk hjk (fun z => by rw [z.2.1] at q2; cases q2)]
        | false =>
          walk_at "go"
          refine wp_eq hat ?_
          walk_at "go"
          refine wp_eq (law_leq_eq (by rw [e1, e2]) (by omega)) ?_
          cases q3 : leqB ts[k] ts[j] with
          | true =>
            walk_at "go"
            refine ⟨?_, rfl⟩
            rw [hf j k hjl hk hjk (fun z => by rw [z.2.2] at q3; cases q3)]
          | false =>
            walk_at "go"
            refine ⟨rfl, ⟨_, rfl⟩, fun i hi hij hik => ?_⟩
            by_cases e : i < j
            · exact hJ i hi e hik
            · have : i = j := by omega
              subst this
              exact ⟨q1, q2, q3⟩
    · obtain ⟨rfl, ⟨u2, rfl⟩, hJ⟩ := hJ
      refine ⟨Its.ok_none, ?_⟩
      walk_at "go"
      refine ⟨rfl, ⟨_, _, rfl⟩, fun i j hi hj hij hjk => ?_⟩
      by_cases e : j < k
      · exact hI i j hi hj hij e
      · have : j = k := by omega
        subst this
        exact hJ i hi (by show i < ((ts.take j).map tT).length; rw [List.length_map, List.length_take]; omega) hij
  · obtain ⟨rfl, ⟨u1, u2, rfl⟩, hI⟩ := hI
    refine ⟨Its.ok_none, ?_⟩
    walk_at "go"
    refine ⟨?_, rfl⟩
    rw [hb.mpr (List.pairwise_iff_getElem.mpr fun i j hi hj hij => hI i j hi hj hij (by show j < (rng 0 (ts.length : Int)).length; rw [rng_len]; exact hj))]
/-- the pool may have changed, and new places -/
def Drx (p : Nat) (st s : Sto) : Prop := st.nxt ≤ s.nxt ∧ Dr p st (s.restr st.nxt)
theorem Drx.refl {p : Nat} {st : Sto} (h : Pool p st) : Drx p st st := ⟨Nat.le_refl _, by rw [Sto.restr_self]; exact .refl h⟩
theorem Drx.alloc {p : Nat} {st s : Sto} {c : Cell} (h : Drx p st s) : Drx p st (s.alloc c) := ⟨by rw [Sto.alloc_nxt]; exact Nat.le_succ_of_le h.1, by rw [Sto.restr_alloc h.1]; exact h.2⟩
theorem Drx.set {p l : Nat} {st s : Sto} {c : Cell} (h : Drx p st s) (hl : st.nxt ≤ l) : Drx p st (s.set l c) := ⟨h.1, by rw [Sto.restr_set_ge hl]; exact h.2⟩
theorem Drx.dr {p : Nat} {st s s' : Sto} (h : Drx p st s) (hp : p < st.nxt) (d : Dr p s s') : Drx p st s' := by
  obtain ⟨P, rfl, h2⟩ := d
  refine ⟨h.1, ?_⟩
  rw [Sto.restr_set_lt hp]
  obtain ⟨P', e, h3⟩ := h.2
  exact ⟨P, by rw [e, Sto.set_set], h2⟩
theorem Drx.kill {p l : Nat} {st s : Sto} (h : Drx p st s) (hl : st.nxt ≤ l) : Drx p st (s.kill l) := by
  refine ⟨h.1, ?_⟩
  have : (s.kill l).restr st.nxt = s.restr st.nxt := Sto.ext' rfl fun j => by
    show (if j < st.nxt then (if j = l then none else s.cs j) else none) = if j < st.nxt then s.cs j else none
    by_cases q : j < st.nxt
    · rw [if_pos q, if_pos q, if_neg (by omega)]
    · rw [if_neg q, if_neg q]
  rw [this]; exact h.2
theorem Drx.pool {p : Nat} {st s : Sto} (h : Drx p st s) (hp : p < st.nxt) (h0 : Pool p st) : Pool p s := by
  obtain ⟨P, e, h2⟩ := h.2
  obtain ⟨P0, hP0, _⟩ := h0
  refine ⟨P, ?_, h2⟩
  have e1 : (s.restr st.nxt).cs p = some (.lst (P.map .int)) := by rw [e]; exact Sto.set_get hP0
  have e2 : (s.restr st.nxt).cs p = s.cs p := by
    show (if p < st.nxt then s.cs p else none) = _
    rw [if_pos hp]
  rw [← e2, e1]
theorem Pool.kill {p l : Nat} {st : Sto} (h : Pool p st) (hl : l ≠ p) : Pool p (st.kill l) := by
  obtain ⟨P, hP, h2⟩ := h
  exact ⟨P, by rw [Sto.kill_ne (Ne.symm hl)]; exact hP, h2⟩
theorem near_wp {p n : Nat} {st : Sto} {t : List Int} {Q : PV → Sto → Prop} (h : Pool p st) (hn : n ≤ 1000) (ht : t.length = n) (q : ∀ a st', Tm n a → Dr p st st' → Q (tT a) st') : wp (f_law_near [.loc p, tT t] st) Q := by
  unfold f_law_near
  refine wp_runF rfl ?_
  show wp (D_law_near [some (.loc p), some (tT t), none] st) _
  unfold D_law_near
  walk_at "go"
  refine lcGo_wp (its := ⟨t.map .int, none⟩) (fun k done s => Dr p st s ∧ ∃ a : List Int, done = a.map .int ∧ a.length = k ∧ ∀ x ∈ a, 0 ≤ x ∧ x ≤ 99) _ (fun k x done s hx hI => ?_) (fun done s hI => ?_) ⟨.refl h, [], rfl, rfl, fun x hx => by cases hx⟩
  · obtain ⟨d, a, rfl, rfl, hb⟩ := hI
    obtain ⟨c, hc, hm, rfl⟩ := get_map hx
    refine ⟨Its.ok_none, ?_⟩
    walk_at "go"
    refine pick_wp (h.dr d) (xs := [.int 0, .int 1, .int (-1), .int 0, .int 2, .int (-3)]) (fun _ _ => rfl) (by decide) (by intro x hx; simp only [List.mem_cons, List.not_mem_nil, or_false] at hx; rcases hx with rfl | rfl | rfl | rfl | rfl | rfl <;> exact lb_int _ _) fun x s' hx d' => ?_
    obtain ⟨i, rfl⟩ : ∃ i, x = .int i := by
      simp only [List.mem_cons, List.not_mem_nil, or_false] at hx
      rcases hx with rfl | rfl | rfl | rfl | rfl | rfl <;> exact ⟨_, rfl⟩
    refine wp_set (by rw [d'.nxt]) (lb_int _ _) ?_
    walk_at "go"
    refine ⟨d.trans d', a ++ [_], by rw [List.map_append]; rfl, by rw [List.length_append]; rfl, fun x hx => ?_⟩
    rcases List.mem_append.mp hx with hx | hx
    · exact hb x hx
    · rw [List.mem_singleton] at hx
      subst hx
      rw [min_if, max_if]
      omega
  · obtain ⟨d, a, rfl, ha, hb⟩ := hI
    rw [show (Its.mk (t.map PV.int) none).items.length = n by show (t.map PV.int).length = n; rw [List.length_map, ht]] at ha
    refine ⟨Its.ok_none, ?_⟩
    refine wp_eq (mkV_eq (okL (by rw [List.length_map]; omega))) ?_
    walk_at "go"
    refine wp_eq (a := tT a) (s := s) (mkT_eq (okL (by rw [List.length_map]; omega))) ?_
    walk_at "go"
    refine wp_eq (fin_val tT_lb) ?_
    rw [d.restr]
    exact q a s ⟨ha, hb⟩ d
end DL

namespace DL
open PySem L2
/-! S: statement by statement: what comes behind a statement stays out of sight while it is walked -/
def Cont (K B : DS) (Q : Fl → Sto → Prop) : Prop := ∀ e s, wp (B e s) Q → wp (K e s) Q
theorem wp_seqK {A B : DS} {env : Env} {st : Sto} {Q : Fl → Sto → Prop} (h : ∀ K : DS, Cont K B Q → wp (A env st) fun f s => wp (match f with | .nx e => K e s | f => some (f, s)) Q) : wp (sSeq A B env st) Q := by
  have := h B fun _ _ z => z
  obtain ⟨f, s, e, q⟩ := this
  show wp (mb (A env st) _) Q
  rw [e]
  exact q
theorem wp_nx {K B : DS} {e : Env} {s : Sto} {Q : Fl → Sto → Prop} (h : Cont K B Q) (q : wp (B e s) Q) : wp (K e s) Q := h e s q
end DL

namespace DL
open PySem L2
local macro_rules | `(tactic| walk_at "go") => `(tactic| repeat (first | refine wp_mb ?_ | with_reducible refine wp_mul (by first | assumption | (exact okMul_iff.mpr (by omega))) ?_ | with_reducible refine wp_mod (by first | assumption | (exact okMod_iff.mpr (by omega))) ?_ | with_reducible refine wp_div (by first | assumption | (exact okDiv_iff.mpr (by omega))) ?_ | with_reducible refine wp_pow (by first | assumption | (exact okPow_iff.mpr (by decide))) ?_ | ((with_reducible refine wp_set ?_ ?_ ?_); (focus rfl); (focus first | exact tT_lb | exact lb_int _ _ | exact lb_bl _ _ | exact lb_non _ | assumption)) | refine wp_eq rfl ?_))
local macro_rules | `(tactic| walk_at "st") => `(tactic| ((first | (refine wp_seqK ?_; intro K hK) | skip); walk_at "go"))
local macro_rules | `(tactic| walk_at "nx") => `(tactic| ((try dsimp only [List.set_cons_zero, List.set_cons_succ]); refine wp_nx (by assumption) ?_; walk_at "st"))
/-! W4 of k01: the listed times -/
theorem rot_Tm {n a : Nat} {t : List Int} (h : Tm n t) : Tm n (t.drop a ++ t.take a) := by
  refine ⟨?_, fun c hc => h.2 c ?_⟩
  · have := h.1
    rw [List.length_append, List.length_drop, List.length_take]; omega
  · rcases List.mem_append.mp hc with hc | hc
    · exact List.mem_of_mem_drop hc
    · exact List.mem_of_mem_take hc
theorem Tms_snoc {n : Nat} {ts : List (List Int)} {t : List Int} (h : Tms n ts) (ht : Tm n t) : Tms n (ts ++ [t]) := fun x hx => by
  rcases List.mem_append.mp hx with hx | hx
  · exact h x hx
  · rw [List.mem_singleton] at hx; subst hx; exact ht
theorem listed_wp {p n : Nat} {span : Int} {st : Sto} {Q : PV → Sto → Prop} (h : Pool p st) (hn : 1 ≤ n) (hn4 : n ≤ 1000) (hs : 0 < span) (hs1 : span ≤ 100) (q : ∀ ts st', Tms n ts → ts.length ≤ 39 → Dr p st st' → Q (.loc st'.nxt) (st'.alloc (.lst (ts.map tT)))) : wp (f_law_listed [.loc p, .int n, .int span] st) Q := by
  unfold f_law_listed
  refine wp_runF rfl ?_
  show wp (D_law_listed [some (.loc p), some (.int n), some (.int span), none, none, none, none, none, none] st) _
  unfold D_law_listed
  walk_at "st"
  refine draw_wp h (by decide) fun m s z0 z1 d => ?_
  refine wp_set (by rw [d.nxt]) (lb_int _ _) ?_
  have hp := h.dr d
  have hx : Drx p st s := (Drx.refl h).dr h.lt d
  clear d
  walk_at "go"
  walk_at "nx"
  refine draw_wp hp (by decide) fun m16 s1 n0 n1 d => ?_
  refine wp_set (by rw [d.nxt]) (lb_int _ _) ?_
  replace hp := hp.dr d
  replace hx := hx.dr h.lt d
  clear d
  walk_at "go"
  rw [eqv_int, Bool.bne_false]
  obtain ⟨mN, rfl⟩ := Int.eq_ofNat_of_zero_le z0
  refine wp_mono (R := fun f s' => ∃ mm : Nat, f = .nx [some (.loc p), some (.int n), some (.int span), some (.int mm), none, none, none, none, none] ∧ mm ≤ 39 ∧ Pool p s' ∧ Drx p st s') (wp_if (fun e => ?_) (fun e => ?_)) (fun f s' h' => ?_)
  · walk_at "go"
    refine draw_wp hp (by decide) fun r s' q0 q1 d => ?_
    refine wp_set (by rw [d.nxt]) (lb_int _ _) ?_
    walk_at "go"
    obtain ⟨mm, hmm⟩ := Int.eq_ofNat_of_zero_le (show 0 ≤ 13 + r by omega)
    exact ⟨mm, by rw [hmm]; rfl, by omega, hp.dr d, hx.dr h.lt d⟩
  · walk_at "go"
    exact ⟨mN, rfl, by omega, hp, hx⟩
  clear hp hx
  obtain ⟨mm, rfl, hmm, hp, hx⟩ := h'
  refine wp_nx (by assumption) ?_
  refine wp_seqK ?_
  intro K2 hK2
  refine wp_mb (wp_mb (wp_eq rfl ?_))
  refine wp_eq (mkM_eq (by decide) (lbs_nil 0)) ?_
  have hlt := hp.lt
  have hp1 : Pool p (s'.alloc (.lst [])) := hp.alloc
  have hx1 : Drx p st (s'.alloc (.lst [])) := hx.alloc
  have hc1 : (s'.alloc (.lst [])).cs s'.nxt = some (.lst (([] : List (List Int)).map tT)) := Sto.alloc_get
  have hne : s'.nxt ≠ p := by omega
  have hge : st.nxt ≤ s'.nxt := hx.1
  generalize s'.alloc (.lst []) = s2 at hp1 hx1 hc1 ⊢
  generalize s'.nxt = tl at hc1 hne hge ⊢
  walk_at "go"
  walk_at "nx"
  refine wp_pos (okR (n := mm) (by omega)) ?_
  walk_at "go"
  refine forGo_wp (its := ⟨rng 0 (mm : Int), none⟩) (fun k env s => (∃ u5 u6 u7 u8, env = [some (.loc p), some (.int n), some (.int span), some (.int mm), some (.loc tl), u5, u6, u7, u8]) ∧ Pool p s ∧ Drx p st s ∧ ∃ ts : List (List Int), s.cs tl = some (.lst (ts.map tT)) ∧ ts.length = k ∧ Tms n ts) _ (fun k x env s hy hI => ?_) (fun env s hI => ?_) ⟨⟨_, _, _, _, rfl⟩, hp1, hx1, [], hc1, rfl, fun _ z => by cases z⟩
  · obtain ⟨⟨u5, u6, u7, u8, rfl⟩, hp, hx, ts, hc, htl, hts⟩ := hI
    obtain ⟨hk, rfl⟩ := rng_get hy
    refine ⟨Its.ok_none, wp_eq rfl ?_⟩
    walk_at "go"
    refine draw_wp hp (by decide) fun way s3 w0 w1 d => ?_
    refine wp_set (by rw [d.nxt]) (lb_int _ _) ?_
    replace hc := (d.get hne).trans hc
    replace hp := hp.dr d
    replace hx := hx.dr h.lt d
    clear d
    walk_at "go"
    rw [eqv_int, Bool.bne_false]
    have done : ∀ (t : List Int) (s4 : Sto) (u5 u6 u7 u8 : Option PV), Tm n t → Pool p s4 → Drx p st s4 → s4.cs tl = some (.lst (ts.map tT)) → ∃ s5, mAppend tl [tT t] s4 = some (.non, s5) ∧ Pool p s5 ∧ Drx p st s5 ∧ ∃ ts' : List (List Int), s5.cs tl = some (.lst (ts'.map tT)) ∧ ts'.length = k + 1 ∧ Tms n ts' := fun t s4 u5 u6 u7 u8 ht hp hx hc => by
      refine ⟨_, loc_append hc (by rw [List.length_map, sizeLine_eq]; omega) tT_lb, hp.set hne, hx.set hge, ts ++ [t], ?_, by rw [List.length_append, htl]; rfl, Tms_snoc hts ht⟩
      rw [Sto.set_get hc, List.map_append]; rfl
    by_cases hk0 : k = 0
    · subst hk0
      walk_at "go"
      refine wp_eq (loc_asL hc) ?_
      walk_at "go"
      refine moment_wp hp hs hn4 fun a s4 ha hb d => ?_
      refine wp_set (by rw [d.nxt]) tT_lb ?_
      walk_at "go"
      obtain ⟨s5, e5, r⟩ := done a s4 none none none none ⟨ha, fun c hc => by have := hb c hc; omega⟩ (hp.dr d) (hx.dr h.lt d) ((d.get hne).trans hc)
      refine wp_eq e5 ?_
      walk_at "go"
      exact ⟨⟨_, _, _, _, rfl⟩, r⟩
    · have e0 : ((0 : Int) + (k : Int) == 0) = false := by simp; omega
      rw [e0]
      walk_at "go"
      refine wp_if (fun h1 => ?_) (fun h1 => ?_)
      · walk_at "go"
        refine wp_eq (loc_asL hc) ?_
        walk_at "go"
        refine moment_wp hp hs hn4 fun a s4 ha hb d => ?_
        refine wp_set (by rw [d.nxt]) tT_lb ?_
        walk_at "go"
        obtain ⟨s5, e5, r⟩ := done a s4 none none none none ⟨ha, fun c hc => by have := hb c hc; omega⟩ (hp.dr d) (hx.dr h.lt d) ((d.get hne).trans hc)
        refine wp_eq e5 ?_
        walk_at "go"
        exact ⟨⟨_, _, _, _, rfl⟩, r⟩
      · have hw : way ≤ 3 := by
          by_cases q : 3 < way
          · exact absurd (decide_eq_true q) h1
          · omega
        walk_at "go"
        refine pick_wp hp (xs := ts.map tT) (fun st' d => seq_of_lst (lst_loc ((d.get hne).trans hc))) (by rw [List.length_map]; omega) (fun x hx => by obtain ⟨t, _, rfl⟩ := List.mem_map.mp hx; exact tT_lb) fun x s4 hx' d => ?_
        obtain ⟨t, ht, rfl⟩ := List.mem_map.mp hx'
        have htn := hts t ht
        refine wp_set (by rw [d.nxt]) tT_lb ?_
        replace hc := (d.get hne).trans hc
        replace hp := hp.dr d
        replace hx := hx.dr h.lt d
        clear d
        walk_at "go"
        refine draw_wp hp (by omega) fun ai s5 a0 a1 d => ?_
        refine wp_set (by rw [d.nxt]) (lb_int _ _) ?_
        replace hc := (d.get hne).trans hc
        replace hp := hp.dr d
        replace hx := hx.dr h.lt d
        clear d
        obtain ⟨a, rfl⟩ := Int.eq_ofNat_of_zero_le a0
        have hal : a ≤ t.length := by rw [htn.1]; omega
        walk_at "go"
        refine wp_eq (loc_asL hc) ?_
        walk_at "go"
        refine near_wp hp hn4 htn.1 fun nt s6 hnt d => ?_
        refine wp_set (by rw [d.nxt]) tT_lb ?_
        replace hc := (d.get hne).trans hc
        replace hp := hp.dr d
        replace hx := hx.dr h.lt d
        clear d
        walk_at "go"
        rw [cutT_from (k := a) rfl hal, cutT_to (k := a) rfl hal]
        have hr := rot_Tm (a := a) htn
        refine wp_eq (add_tT (a := t.drop a) (b := t.take a) (by have := htn.1; rw [List.length_drop, List.length_take]; omega)) ?_
        walk_at "go"
        rw [cutT_from (k := a) rfl hal, cutT_to (k := a) rfl hal]
        refine wp_eq (add_tT (a := t.drop a) (b := t.take a) (by have := htn.1; rw [List.length_drop, List.length_take]; omega)) ?_
        walk_at "go"
        have hsel : ∃ z, Tm n z ∧ ([tT t, tT nt, tT (t.drop a ++ t.take a), tT (t.drop a ++ t.take a)] : List PV)[way.toNat]? = some (tT z) := by
          have : way = 0 ∨ way = 1 ∨ way = 2 ∨ way = 3 := by omega
          rcases this with rfl | rfl | rfl | rfl
          · exact ⟨_, htn, rfl⟩
          · exact ⟨_, hnt, rfl⟩
          · exact ⟨_, hr, rfl⟩
          · exact ⟨_, hr, rfl⟩
        obtain ⟨z, hz, hzz⟩ := hsel
        refine wp_eq (seq_ix rfl (i := way) (x := tT z) (by rw [show way = ((way.toNat : Nat) : Int) by omega]; exact atI_nat hzz)) ?_
        walk_at "go"
        obtain ⟨s7, e7, r⟩ := done z s6 none none none none hz hp hx hc
        refine wp_eq e7 ?_
        walk_at "go"
        exact ⟨⟨_, _, _, _, rfl⟩, r⟩
  · obtain ⟨⟨u5, u6, u7, u8, rfl⟩, hp, hx, ts, hc, htl, hts⟩ := hI
    rw [rng_len] at htl
    refine ⟨Its.ok_none, ?_⟩
    walk_at "go"
    walk_at "nx"
    refine wp_eq (fin_loc hge hc) ?_
    exact q ts (s.restr st.nxt) hts (by omega) hx.2
end DL

namespace DL
open PySem L2
local macro_rules | `(tactic| walk_at "go") => `(tactic| repeat (first | refine wp_mb ?_ | with_reducible refine wp_mul (by first | assumption | (exact okMul_iff.mpr (by omega))) ?_ | with_reducible refine wp_mod (by first | assumption | (exact okMod_iff.mpr (by omega))) ?_ | with_reducible refine wp_div (by first | assumption | (exact okDiv_iff.mpr (by omega))) ?_ | with_reducible refine wp_pow (by first | assumption | (exact okPow_iff.mpr (by decide))) ?_ | ((with_reducible refine wp_set ?_ ?_ ?_); (focus rfl); (focus first | exact tT_lb | exact lb_int _ _ | exact lb_bl _ _ | exact lb_non _ | assumption)) | refine wp_eq rfl ?_))
local macro_rules | `(tactic| walk_at "st") => `(tactic| ((first | (refine wp_seqK ?_; intro K hK) | skip); walk_at "go"))
local macro_rules | `(tactic| walk_at "nx") => `(tactic| ((try dsimp only [List.set_cons_zero, List.set_cons_succ]); refine wp_nx (by assumption) ?_; walk_at "st"))
/-! W5 of k01: the lists for is_frontier -/
def rowP (a : List (List Int)) : PV := .lst (a.map tT)
theorem rowP_lb {a : List (List Int)} {b : Nat} : (rowP a).lb b = true := by
  unfold rowP
  rw [PV.lb]
  exact rows_lb
def Gd (n : Nat) (a : List (List Int)) : Prop := Tms n a ∧ a.length < 64
/-- the list of lists, as it grows -/
def LI (p rl n : Nat) (st s : Sto) (m : Nat) : Prop := Pool p s ∧ Drx p st s ∧ ∃ R : List (List (List Int)), s.cs rl = some (.lst (R.map rowP)) ∧ R.length ≤ m ∧ ∀ a ∈ R, Gd n a
theorem LI.dr {p rl n m : Nat} {st s s' : Sto} (h : LI p rl n st s m) (hne : rl ≠ p) (hp : p < st.nxt) (d : Dr p s s') : LI p rl n st s' m := by
  obtain ⟨h1, h2, R, h3, h4, h5⟩ := h
  exact ⟨h1.dr d, h2.dr hp d, R, (d.get hne).trans h3, h4, h5⟩
theorem LI.grow {p rl n m : Nat} {st s : Sto} {a : List (List Int)} (h : LI p rl n st s m) (hne : rl ≠ p) (hge : st.nxt ≤ rl) (hm : m ≤ 1000) (ha : Gd n a) : ∃ s', mAppend rl [.lst (a.map tT)] s = some (.non, s') ∧ LI p rl n st s' (m + 1) := by
  obtain ⟨h1, h2, R, h3, h4, h5⟩ := h
  refine ⟨_, loc_append h3 (by rw [List.length_map, sizeLine_eq]; omega) rowP_lb, h1.set hne, h2.set hge, R ++ [a], ?_, by rw [List.length_append, List.length_singleton]; omega, fun x hx => ?_⟩
  · rw [Sto.set_get h3, List.map_append]; rfl
  · rcases List.mem_append.mp hx with hx | hx
    · exact h5 x hx
    · rw [List.mem_singleton] at hx; subst hx; exact ha
theorem LI.more {p rl n m m' : Nat} {st s : Sto} (h : LI p rl n st s m) (hm : m ≤ m') : LI p rl n st s m' := by
  obtain ⟨h1, h2, R, h3, h4, h5⟩ := h
  exact ⟨h1, h2, R, h3, by omega, h5⟩
theorem frz_eq {l : Nat} {xs : List PV} {st : Sto} (h : st.cs l = some (.lst xs)) : frzL (.loc l) st = some (.lst xs, st.kill l) := by
  show (match st.cs l with | some (.lst xs) => some (PV.lst xs, st.kill l) | _ => none) = _
  rw [h]
theorem add_rows {a b : List (List Int)} {st : Sto} (h : a.length + b.length ≤ 1000000) : opAdd false (.lst (a.map tT)) (.lst (b.map tT)) st = some (.lst ((a ++ b).map tT), st) := by
  rw [add_lst (b := b.map tT) rfl, ← List.map_append]
  exact mkV_eq (okL (by rw [List.length_map, List.length_append]; exact h))
theorem Tms_app {n : Nat} {a b : List (List Int)} (ha : Tms n a) (hb : Tms n b) : Tms n (a ++ b) := fun x hx => by
  rcases List.mem_append.mp hx with hx | hx
  · exact ha x hx
  · exact hb x hx
theorem Tms_take {n k : Nat} {a : List (List Int)} (ha : Tms n a) : Tms n (a.take k) := fun x hx => ha x (List.mem_of_mem_take hx)
theorem Tms_drop {n k : Nat} {a : List (List Int)} (ha : Tms n a) : Tms n (a.drop k) := fun x hx => ha x (List.mem_of_mem_drop hx)
theorem rows_to {a : List (List Int)} {i : Int} {k : Nat} (hi : i = (k : Int)) (h : k ≤ a.length) : cutP (a.map tT) none (some i) = (a.take k).map tT := by
  rw [cutL_to hi (by rw [List.length_map]; exact h), List.map_take]
theorem rows_from {a : List (List Int)} {i : Int} {k : Nat} (hi : i = (k : Int)) (h : k ≤ a.length) : cutP (a.map tT) (some i) none = (a.drop k).map tT := by
  rw [cutL_from hi (by rw [List.length_map]; exact h), List.map_drop]
theorem rows_ix {a : List (List Int)} {i : Int} {k : Nat} (hi : i = (k : Int)) (h : k < a.length) {st : Sto} : opIx (.lst (a.map tT)) (.int i) st = some (tT a[k], st) := by
  subst hi
  exact seq_ix rfl (atI_nat (by rw [List.getElem?_map, List.getElem?_eq_getElem h]; rfl))
theorem lists_wp {p n : Nat} {front times : List (List Int)} {st : Sto} {Q : PV → Sto → Prop} (h : Pool p st) (hn : 1 ≤ n) (hn4 : n ≤ 1000) (hf : Tms n front) (hfl : front.length ≤ 45) (ht : Tms n times) (htl : times.length ≤ 45)
    (q : ∀ (R : List (List (List Int))) (st' : Sto), (∀ a ∈ R, Gd n a) → R.length ≤ 100 → Dr p st st' → Q (.loc st'.nxt) (st'.alloc (.lst (R.map rowP)))) : wp (f_law_lists [.loc p, .lst (front.map tT), .lst (times.map tT)] st) Q := by
  unfold f_law_lists
  refine wp_runF rfl ?_
  show wp (D_law_lists [some (.loc p), some (.lst (front.map tT)), some (.lst (times.map tT)), none, none, none, none, none, none, none] st) _
  have hst : (sortT times).length = times.length := (sortT_perm times).length_eq
  have hstm : Tms n (sortT times) := fun t hm => ht t ((sortT_perm times).mem_iff.mp hm)
  have hlt := h.lt
  unfold D_law_lists
  refine wp_seqK ?_
  intro K hK
  refine wp_mb (wp_mb (wp_eq rfl ?_))
  refine wp_eq (mkM_eq (by decide) (lbs_nil 0)) ?_
  have hp1 : Pool p (st.alloc (.lst [])) := h.alloc
  have hx1 : Drx p st (st.alloc (.lst [])) := (Drx.refl h).alloc
  have hc1 : (st.alloc (.lst [])).cs st.nxt = some (.lst (([] : List (List Int)).map tT)) := Sto.alloc_get
  have hne : st.nxt ≠ p := by omega
  have hge : st.nxt ≤ st.nxt := Nat.le_refl _
  generalize st.alloc (.lst []) = s1 at hp1 hx1 hc1 ⊢
  walk_at "go"
  walk_at "nx"
  rw [sorted_eq (ts := times) hn (by omega) ht rfl]
  refine wp_eq (mkV_eq (okL (by rw [List.length_map, hst]; omega))) ?_
  walk_at "go"
  refine forGo_wp (its := ⟨(sortT times).map tT, none⟩) (fun k env s => (∃ u4, env = [some (.loc p), some (.lst (front.map tT)), some (.lst (times.map tT)), some (.loc st.nxt), u4, none, none, none, none, none]) ∧ Pool p s ∧ Drx p st s ∧ ∃ O : List (List Int), s.cs st.nxt = some (.lst (O.map tT)) ∧ O.length ≤ k ∧ Tms n O) _ (fun k x env s hy hI => ?_) (fun env s hI => ?_) ⟨⟨_, rfl⟩, hp1, hx1, [], hc1, Nat.le_refl _, fun _ z => by cases z⟩
  · obtain ⟨⟨u4, rfl⟩, hp, hx, O, hc, hO, hOn⟩ := hI
    obtain ⟨y, hy', hm, rfl⟩ := get_map hy
    have hk : k < times.length := by
      have := (List.getElem?_eq_some_iff.mp hy').1
      omega
    refine ⟨Its.ok_none, wp_eq rfl ?_⟩
    walk_at "go"
    refine wp_eq (in_rows (ks := O) (lst_loc hc)) ?_
    walk_at "go"
    refine wp_if (fun h1 => ?_) (fun h1 => ?_)
    · walk_at "go"
      refine wp_eq (loc_asL hc) ?_
      walk_at "go"
      refine wp_eq (loc_append hc (by rw [List.length_map, sizeLine_eq]; omega) tT_lb) ?_
      walk_at "go"
      refine ⟨⟨_, rfl⟩, hp.set hne, hx.set (by omega), O ++ [y], ?_, by rw [List.length_append, List.length_singleton]; omega, Tms_snoc hOn (hstm y hm)⟩
      rw [Sto.set_get hc, List.map_append]; rfl
    · walk_at "go"
      exact ⟨⟨_, rfl⟩, hp, hx, O, hc, by omega, hOn⟩
  obtain ⟨⟨u4, rfl⟩, hp, hx, O, hc, hO, hOn⟩ := hI
  have hO : O.length ≤ times.length := by
    have : O.length ≤ ((sortT times).map tT).length := hO
    rw [List.length_map, hst] at this; exact this
  refine ⟨Its.ok_none, ?_⟩
  clear hp1 hx1 hc1
  walk_at "go"
  walk_at "nx"
  rw [sorted_eq (ts := times) hn (by omega) ht rfl]
  refine wp_eq (mkV_eq (okL (by rw [List.length_map, hst]; omega))) ?_
  walk_at "go"
  refine wp_eq (frz_eq hc) ?_
  walk_at "go"
  have hp2 := hp.kill hne
  have hx2 := hx.kill (l := st.nxt) (by omega)
  generalize s.kill st.nxt = s2 at hp2 hx2 ⊢
  clear hp hx hc
  refine wp_eq (a := .loc s2.nxt) (s := s2.alloc (.lst ([[], times, sortT times, O, front].map rowP))) (mkM_eq (xs := [[], times, sortT times, O, front].map rowP) (okL (show 5 ≤ 1000000 by decide)) (lbs_map (fun _ => rowP_lb) _)) ?_
  have hL : LI p s2.nxt n st (s2.alloc (.lst ([[], times, sortT times, O, front].map rowP))) 5 := by
    refine ⟨hp2.alloc, hx2.alloc, _, Sto.alloc_get, Nat.le_refl 5, fun a ha => ?_⟩
    simp only [List.mem_cons, List.not_mem_nil, or_false] at ha
    rcases ha with rfl | rfl | rfl | rfl | rfl
    · exact ⟨fun t (z : t ∈ []) => (by cases z), by decide⟩
    · exact ⟨ht, by omega⟩
    · exact ⟨hstm, by omega⟩
    · exact ⟨hOn, by omega⟩
    · exact ⟨hf, by omega⟩
  have hrp : s2.nxt ≠ p := by have := hp2.lt; omega
  have hrg : st.nxt ≤ s2.nxt := hx2.1
  generalize s2.alloc (.lst ([[], times, sortT times, O, front].map rowP)) = s3 at hL ⊢
  generalize s2.nxt = rl at hL hrp hrg ⊢
  clear hp2 hx2
  walk_at "go"
  walk_at "nx"
  refine wp_pos (okRng_iff.mpr ⟨by decide, by decide⟩) ?_
  walk_at "go"
  refine forGo_wp (its := ⟨rng 0 ((3 : Nat) : Int), none⟩) (fun k env s => (∃ u4 u6 u7 u8 u9, env = [some (.loc p), some (.lst (front.map tT)), some (.lst (times.map tT)), some (.loc st.nxt), u4, some (.loc rl), u6, u7, u8, u9]) ∧ LI p rl n st s (5 + 3 * k)) _ (fun k x env s hy hI => ?_) (fun env s hI => ?_) ⟨⟨_, _, _, _, _, rfl⟩, hL⟩
  · obtain ⟨⟨u4, u6, u7, u8, u9, rfl⟩, hL⟩ := hI
    obtain ⟨hk, rfl⟩ := rng_get hy
    refine ⟨Its.ok_none, wp_eq rfl ?_⟩
    walk_at "go"
    rw [List.length_map]
    refine wp_if (fun h1 => ?_) (fun h1 => ?_)
    rotate_left
    · walk_at "go"
      exact ⟨⟨_, _, _, _, _, rfl⟩, hL.more (by omega)⟩
    have h1 : 0 < front.length := by have := of_decide_eq_true h1; omega
    walk_at "st"
    rw [List.length_map]
    refine draw_wp hL.1 (by omega) fun ai s4 a0 a1 d => ?_
    refine wp_set (by rw [d.nxt]) (lb_int _ _) ?_
    replace hL := hL.dr hrp hlt d
    clear d
    obtain ⟨a, rfl⟩ := Int.eq_ofNat_of_zero_le a0
    have ha : a < front.length := by omega
    have htm := hf front[a] (List.getElem_mem ha)
    walk_at "go"
    walk_at "nx"
    refine wp_eq (rows_ix rfl ha) ?_
    generalize hfa : front[a] = t at htm
    walk_at "go"
    rw [List.length_map]
    refine draw_wp hL.1 (by have := htm.1; omega) fun r s5 r0 r1 d => ?_
    refine wp_set (by rw [d.nxt]) (lb_int _ _) ?_
    replace hL := hL.dr hrp hlt d
    clear d
    walk_at "go"
    generalize hkv : (r * if decide (0 < (0 : Int) + (k : Int)) = true then 1 else 0) = kv
    have hkv' : 0 ≤ kv ∧ kv < t.length := by
      subst hkv
      split <;> omega
    obtain ⟨c, rfl⟩ := Int.eq_ofNat_of_zero_le hkv'.1
    have hc : c < t.length := by omega
    clear hkv hkv'
    walk_at "go"
    walk_at "nx"
    refine wp_eq (rows_ix rfl ha) ?_
    rw [hfa]
    refine wp_eq (tup_nat rfl hc) ?_
    walk_at "go"
    have htc := htm.2 t[c] (List.getElem_mem hc)
    refine pick_wp hL.1 (xs := [.int 1, .int 2, .int 7, .int 40]) (fun _ _ => rfl) (by decide) (by intro x hx; simp only [List.mem_cons, List.not_mem_nil, or_false] at hx; rcases hx with rfl | rfl | rfl | rfl <;> exact lb_int _ _) fun x s6 hx d => ?_
    obtain ⟨i, rfl, hi⟩ : ∃ i, x = .int i ∧ 1 ≤ i := by
      simp only [List.mem_cons, List.not_mem_nil, or_false] at hx
      rcases hx with rfl | rfl | rfl | rfl <;> exact ⟨_, rfl, by decide⟩
    refine wp_set (by rw [d.nxt]) (lb_int _ _) ?_
    replace hL := hL.dr hrp hlt d
    clear d hx
    walk_at "go"
    refine wp_eq (rows_ix rfl ha) ?_
    rw [hfa]
    refine wp_eq (tup_nat rfl hc) ?_
    walk_at "go"
    rw [eqv_int, Bool.bne_false, min_if]
    generalize hmv : min 99 (t[c] + i) - (if (t[c] == 99) = true then 1 else 0) = mv
    have hmv' : 0 ≤ mv ∧ mv ≤ 99 := by
      subst hmv
      split
      · rename_i e
        have : t[c] = 99 := by simpa using e
        omega
      · omega
    clear hmv
    have hnew : Tm n (t.take c ++ [mv] ++ t.drop (c + 1)) := by
      have := htm.1
      refine ⟨by rw [List.length_append, List.length_append, List.length_take, List.length_drop, List.length_singleton]; omega, fun z hz => ?_⟩
      rw [List.mem_append, List.mem_append, List.mem_singleton] at hz
      rcases hz with (hz | rfl) | hz
      · exact htm.2 z (List.mem_of_mem_take hz)
      · exact hmv'
      · exact htm.2 z (List.mem_of_mem_drop hz)
    walk_at "go"
    walk_at "nx"
    refine wp_eq (loc_asL hL.2.2.choose_spec.1) ?_
    walk_at "go"
    refine wp_eq (rows_ix rfl ha) ?_
    rw [hfa]
    walk_at "go"
    rw [cutT_to (k := c) rfl (by omega)]
    refine wp_eq (add_tT (a := t.take c) (b := [mv]) (by have := htm.1; rw [List.length_take, List.length_singleton]; omega)) ?_
    walk_at "go"
    refine wp_eq (rows_ix rfl ha) ?_
    rw [hfa]
    walk_at "go"
    rw [cutT_from (k := c + 1) (by omega) (by omega)]
    refine wp_eq (add_tT (a := t.take c ++ [mv]) (b := t.drop (c + 1)) (by have := htm.1; rw [List.length_append, List.length_take, List.length_singleton, List.length_drop]; omega)) ?_
    walk_at "go"
    refine wp_eq (add_rows (a := front) (b := [t.take c ++ [mv] ++ t.drop (c + 1)]) (by rw [List.length_singleton]; omega)) ?_
    walk_at "go"
    have hb1 : Tms n (front ++ [t.take c ++ [mv] ++ t.drop (c + 1)]) := Tms_snoc hf hnew
    generalize hbb : front ++ [t.take c ++ [mv] ++ t.drop (c + 1)] = bb at hb1 ⊢
    have hbl : bb.length < 64 := by rw [← hbb, List.length_append, List.length_singleton]; omega
    have hsl : (sortT bb).length = bb.length := (sortT_perm bb).length_eq
    rw [sorted_eq (ts := bb) hn hbl hb1 rfl]
    refine wp_eq (mkV_eq (okL (by rw [List.length_map, hsl]; omega))) ?_
    walk_at "go"
    obtain ⟨s7, e7, hL7⟩ := hL.grow (a := sortT bb) hrp hrg (by omega) ⟨fun z hz => hb1 z ((sortT_perm bb).mem_iff.mp hz), by omega⟩
    refine wp_eq e7 ?_
    clear hL
    walk_at "go"
    walk_at "nx"
    refine wp_eq (loc_asL hL7.2.2.choose_spec.1) ?_
    walk_at "go"
    show wp (mkL false (cutP (front.map tT) none (some ((a : Int) + 1))) s7) _
    rw [rows_to (k := a + 1) (by omega) (by omega)]
    refine wp_eq (mkV_eq (okL (by rw [List.length_map, List.length_take]; omega))) ?_
    walk_at "go"
    show wp (mkL false (cutP (front.map tT) (some (a : Int)) none) s7) _
    rw [rows_from (k := a) rfl (by omega)]
    refine wp_eq (mkV_eq (okL (by rw [List.length_map, List.length_drop]; omega))) ?_
    walk_at "go"
    refine wp_eq (add_rows (a := front.take (a + 1)) (b := front.drop a) (by rw [List.length_take, List.length_drop]; omega)) ?_
    walk_at "go"
    obtain ⟨s8, e8, hL8⟩ := hL7.grow (a := front.take (a + 1) ++ front.drop a) hrp hrg (by omega) ⟨Tms_app (Tms_take hf) (Tms_drop hf), by rw [List.length_append, List.length_take, List.length_drop]; omega⟩
    refine wp_eq e8 ?_
    clear hL7
    walk_at "go"
    refine wp_nx (by assumption) ?_
    walk_at "go"
    refine wp_eq (loc_asL hL8.2.2.choose_spec.1) ?_
    walk_at "go"
    show wp (mkL false (cutP (front.map tT) none (some (a : Int))) s8) _
    rw [rows_to (k := a) rfl (by omega)]
    refine wp_eq (mkV_eq (okL (by rw [List.length_map, List.length_take]; omega))) ?_
    walk_at "go"
    show wp (mkL false (cutP (front.map tT) (some ((a : Int) + 1)) none) s8) _
    rw [rows_from (k := a + 1) (by omega) (by omega)]
    refine wp_eq (mkV_eq (okL (by rw [List.length_map, List.length_drop]; omega))) ?_
    walk_at "go"
    refine wp_eq (add_rows (a := front.take a) (b := front.drop (a + 1)) (by rw [List.length_take, List.length_drop]; omega)) ?_
    walk_at "go"
    obtain ⟨s9, e9, hL9⟩ := hL8.grow (a := front.take a ++ front.drop (a + 1)) hrp hrg (by omega) ⟨Tms_app (Tms_take hf) (Tms_drop hf), by rw [List.length_append, List.length_take, List.length_drop]; omega⟩
    refine wp_eq e9 ?_
    walk_at "go"
    exact ⟨⟨_, _, _, _, _, rfl⟩, hL9.more (by omega)⟩
  obtain ⟨⟨u4, u6, u7, u8, u9, rfl⟩, hL⟩ := hI
  replace hL := hL.more (m' := 14) (by rw [rng_len]; omega)
  refine ⟨Its.ok_none, ?_⟩
  walk_at "go"
  walk_at "nx"
  rw [List.length_map]
  refine wp_mono (R := fun f s => (∃ u7, f = .nx [some (.loc p), some (.lst (front.map tT)), some (.lst (times.map tT)), some (.loc st.nxt), u4, some (.loc rl), u6, u7, u8, u9]) ∧ LI p rl n st s 15) (wp_if (fun h1 => ?_) (fun h1 => ?_)) (fun f s h' => ?_)
  · have h1 : 1 < front.length := by have := of_decide_eq_true h1; omega
    walk_at "st"
    rw [List.length_map]
    refine draw_wp hL.1 (by omega) fun ai s4 a0 a1 d => ?_
    refine wp_set (by rw [d.nxt]) (lb_int _ _) ?_
    replace hL := hL.dr hrp hlt d
    clear d
    obtain ⟨a, rfl⟩ := Int.eq_ofNat_of_zero_le a0
    have ha : a + 1 < front.length := by omega
    walk_at "go"
    refine wp_nx (by assumption) ?_
    walk_at "go"
    refine wp_eq (loc_asL hL.2.2.choose_spec.1) ?_
    walk_at "go"
    show wp (mkL false (cutP (front.map tT) none (some (a : Int))) s4) _
    rw [rows_to (k := a) rfl (by omega)]
    refine wp_eq (mkV_eq (okL (by rw [List.length_map, List.length_take]; omega))) ?_
    walk_at "go"
    refine wp_eq (rows_ix (k := a + 1) (by omega) ha) ?_
    walk_at "go"
    refine wp_eq (rows_ix (k := a) rfl (by omega)) ?_
    walk_at "go"
    refine wp_eq (add_rows (a := front.take a) (b := [front[a + 1], front[a]]) (by rw [List.length_take]; show _ + 2 ≤ _; omega)) ?_
    walk_at "go"
    show wp (mkL false (cutP (front.map tT) (some ((a : Int) + 2)) none) s4) _
    rw [rows_from (k := a + 2) (by omega) (by omega)]
    refine wp_eq (mkV_eq (okL (by rw [List.length_map, List.length_drop]; omega))) ?_
    walk_at "go"
    have hl2 : (front.take a ++ [front[a + 1], front[a]]).length = a + 2 := by rw [List.length_append, List.length_take]; show _ + 2 = _; omega
    refine wp_eq (add_rows (a := front.take a ++ [front[a + 1], front[a]]) (b := front.drop (a + 2)) (by rw [hl2, List.length_drop]; omega)) ?_
    walk_at "go"
    obtain ⟨s9, e9, hL9⟩ := hL.grow (a := front.take a ++ [front[a + 1], front[a]] ++ front.drop (a + 2)) hrp hrg (by omega) ⟨Tms_app (Tms_app (Tms_take hf) (fun z hz => by
      simp only [List.mem_cons, List.not_mem_nil, or_false] at hz
      rcases hz with rfl | rfl
      · exact hf _ (List.getElem_mem _)
      · exact hf _ (List.getElem_mem _))) (Tms_drop hf), by rw [List.length_append, hl2, List.length_drop]; omega⟩
    refine wp_eq e9 ?_
    walk_at "go"
    exact ⟨⟨_, rfl⟩, hL9⟩
  · walk_at "go"
    exact ⟨⟨_, rfl⟩, hL.more (by omega)⟩
  obtain ⟨⟨u7, rfl⟩, hL⟩ := h'
  refine wp_nx (by assumption) ?_
  walk_at "go"
  obtain ⟨_, hx, R, hc, hRl, hR⟩ := hL
  refine wp_eq (fin_loc hrg hc) ?_
  exact q R (s.restr st.nxt) hR (by omega) hx.2
end DL

namespace DL
open PySem L2
local macro_rules | `(tactic| walk_at "go") => `(tactic| repeat (first | refine wp_mb ?_ | with_reducible refine wp_mul (by first | assumption | (exact okMul_iff.mpr (by omega))) ?_ | with_reducible refine wp_mod (by first | assumption | (exact okMod_iff.mpr (by omega))) ?_ | with_reducible refine wp_div (by first | assumption | (exact okDiv_iff.mpr (by omega))) ?_ | with_reducible refine wp_pow (by first | assumption | (exact okPow_iff.mpr (by decide))) ?_ | ((with_reducible refine wp_set ?_ ?_ ?_); (focus rfl); (focus first | exact tT_lb | exact lb_int _ _ | exact lb_bl _ _ | exact lb_non _ | assumption)) | refine wp_eq rfl ?_))
local macro_rules | `(tactic| walk_at "st") => `(tactic| ((first | (refine wp_seqK ?_; intro K hK) | skip); walk_at "go"))
local macro_rules | `(tactic| walk_at "nx") => `(tactic| ((try dsimp only [List.set_cons_zero, List.set_cons_succ]); refine wp_nx (by assumption) ?_; walk_at "st"))
/-! W6 of k01: the law -/
theorem settle_at {b : Nat} {s : Sto} {xs : List PV} (h : b = s.nxt) : settle b (.loc s.nxt) (s.alloc (.lst xs)) = some (.lst xs, s) := by
  subst h
  exact settle_new
theorem law_true : ∀ ns : List Int, ns.length ≤ 63 → ∃ st, f_law [.ro (ns.map .int)] st0 = some (.bl true, st) := by
  intro ns hns
  suffices h : wp (f_law [.ro (ns.map .int)] st0) fun v _ => v = .bl true by
    obtain ⟨v, s, h, rfl⟩ := h
    exact ⟨s, h⟩
  unfold f_law
  refine wp_runF rfl ?_
  show wp (D_law [some (.ro (ns.map .int)), none, none, none, none, none, none, none, none, none, none, none, none, none, none] st0) _
  unfold D_law
  walk_at "st"
  refine pool_wp hns fun P hP => ?_
  walk_at "go"
  dsimp only [List.set_cons_zero, List.set_cons_succ]
  refine wp_nx (by assumption) ?_
  have hp := pool_new (st := st0) hP
  generalize st0.alloc (.lst (P.map .int)) = s0 at hp ⊢
  generalize st0.nxt = p at hp ⊢
  walk_at "st"
  refine pick_wp hp (xs := [.int 3, .int 1, .int 2, .int 4, .int 3, .int 4]) (fun _ _ => rfl) (by decide) (by intro x hx; simp only [List.mem_cons, List.not_mem_nil, or_false] at hx; rcases hx with rfl | rfl | rfl | rfl | rfl | rfl <;> exact lb_int _ _) fun x s1 hx d => ?_
  obtain ⟨n, rfl, hn1, hn2⟩ : ∃ n : Nat, x = .int n ∧ 1 ≤ n ∧ n ≤ 4 := by
    simp only [List.mem_cons, List.not_mem_nil, or_false] at hx
    rcases hx with rfl | rfl | rfl | rfl | rfl | rfl
    · exact ⟨3, rfl, by decide, by decide⟩
    · exact ⟨1, rfl, by decide, by decide⟩
    · exact ⟨2, rfl, by decide, by decide⟩
    · exact ⟨4, rfl, by decide, by decide⟩
    · exact ⟨3, rfl, by decide, by decide⟩
    · exact ⟨4, rfl, by decide, by decide⟩
  refine wp_set (by rw [d.nxt]) (lb_int _ _) ?_
  replace hp := hp.dr d; clear d hx
  have hn4 : n ≤ 1000 := by omega
  walk_at "go"
  walk_at "nx"
  refine pick_wp hp (xs := [.int 4, .int 3, .int 2, .int 10, .int 100]) (fun _ _ => rfl) (by decide) (by intro x hx; simp only [List.mem_cons, List.not_mem_nil, or_false] at hx; rcases hx with rfl | rfl | rfl | rfl | rfl <;> exact lb_int _ _) fun x s2 hx d => ?_
  obtain ⟨span, rfl, hspan, hspan1⟩ : ∃ i, x = .int i ∧ 0 < i ∧ i ≤ 100 := by
    simp only [List.mem_cons, List.not_mem_nil, or_false] at hx
    rcases hx with rfl | rfl | rfl | rfl | rfl <;> exact ⟨_, rfl, by decide, by decide⟩
  refine wp_set (by rw [d.nxt]) (lb_int _ _) ?_
  replace hp := hp.dr d; clear d hx
  walk_at "go"
  walk_at "nx"
  refine listed_wp hp hn1 hn4 hspan hspan1 fun times s3 ht htl d => ?_
  refine wp_settle (settle_at d.nxt.symm) ?_
  replace hp := hp.dr d; clear d
  walk_at "go"
  walk_at "nx"
  refine moment_wp hp hspan hn4 fun a s4 ha hb d => ?_
  refine wp_set (by rw [d.nxt]) tT_lb ?_
  replace hp := hp.dr d; clear d
  have ha : Tm n a := ⟨ha, fun c hc => by have := hb c hc; omega⟩
  walk_at "go"
  refine wp_eq (a := .loc s4.nxt) (s := s4.alloc (.lst ([a].map tT))) (mkM_eq (xs := [a].map tT) (okL (show 1 ≤ 1000000 by decide)) rows_lb) ?_
  have hp5 : Pool p (s4.alloc (.lst ([a].map tT))) := hp.alloc
  have hc5 : (s4.alloc (.lst ([a].map tT))).cs s4.nxt = some (.lst ([a].map tT)) := Sto.alloc_get
  have hne : s4.nxt ≠ p := by have := hp.lt; omega
  generalize s4.alloc (.lst ([a].map tT)) = s5 at hp5 hc5 ⊢
  generalize s4.nxt = pl at hc5 hne ⊢
  clear hp
  walk_at "go"
  walk_at "nx"
  refine wp_pos (okRng_iff.mpr ⟨by decide, by decide⟩) ?_
  walk_at "go"
  refine forGo_wp (its := ⟨rng 0 ((4 : Nat) : Int), none⟩) (fun k env s => (∃ u6, env = [some (.ro (ns.map .int)), some (.loc p), some (.int n), some (.int span), some (.lst (times.map tT)), some (.loc pl), u6, none, none, none, none, none, none, none, none]) ∧ Pool p s ∧ ∃ ps : List (List Int), s.cs pl = some (.lst (ps.map tT)) ∧ ps.length = k + 1 ∧ Tms n ps) _ (fun k x env s hy hI => ?_) (fun env s hI => ?_) ⟨⟨_, rfl⟩, hp5, [a], hc5, rfl, fun x hx => by rw [List.mem_singleton] at hx; subst hx; exact ha⟩
  · obtain ⟨⟨u6, rfl⟩, hp, ps, hc, hpl, hps⟩ := hI
    obtain ⟨hk, rfl⟩ := rng_get hy
    refine ⟨Its.ok_none, wp_eq rfl ?_⟩
    walk_at "go"
    refine wp_eq (loc_asL hc) ?_
    walk_at "go"
    rw [add_lst (b := ps.map tT) (lst_loc hc), ← List.map_append]
    refine wp_eq (mkV_eq (okL (by rw [List.length_map, List.length_append]; omega))) ?_
    walk_at "go"
    refine pick_wp hp (xs := (times ++ ps).map tT) (fun _ _ => rfl) (by rw [List.length_map, List.length_append]; omega) (fun x hx => by obtain ⟨t, _, rfl⟩ := List.mem_map.mp hx; exact tT_lb) fun x s6 hx d => ?_
    obtain ⟨t, htm, rfl⟩ := List.mem_map.mp hx
    have htn := Tms_app ht hps t htm
    refine wp_set (by rw [d.nxt]) tT_lb ?_
    replace hc := (d.get hne).trans hc
    replace hp := hp.dr d
    clear d hx
    walk_at "go"
    refine near_wp hp hn4 htn.1 fun nt s7 hnt d => ?_
    refine wp_set (by rw [d.nxt]) tT_lb ?_
    replace hc := (d.get hne).trans hc
    replace hp := hp.dr d
    clear d
    walk_at "go"
    refine wp_eq (loc_append hc (by rw [List.length_map, sizeLine_eq]; omega) tT_lb) ?_
    walk_at "go"
    refine ⟨⟨_, rfl⟩, hp.set hne, ps ++ [nt], ?_, by rw [List.length_append, hpl]; rfl, Tms_snoc hps hnt⟩
    rw [Sto.set_get hc, List.map_append]; rfl
  obtain ⟨⟨u6, rfl⟩, hp, ps, hc, hpl, hps⟩ := hI
  rw [rng_len] at hpl
  refine ⟨Its.ok_none, ?_⟩
  clear hp5 hc5 ha hb
  have h0 : 0 < ps.length := by omega
  have ha := hps ps[0] (List.getElem_mem h0)
  have hix : ∀ st' : Sto, st'.cs pl = some (.lst (ps.map tT)) → opIx (.loc pl) (.int 0) st' = some (tT ps[0], st') := fun st' hc => loc_ix hc (atI_nat (j := 0) (by rw [List.getElem?_map, List.getElem?_eq_getElem h0]; rfl))
  generalize hgp : ps[0] = b at ha hix
  have hb4 := ha.1
  walk_at "go"
  walk_at "nx"
  refine wp_eq (hix _ hc) ?_
  walk_at "go"
  refine wp_eq (hix _ hc) ?_
  walk_at "go"
  refine wp_eq (add_tT (by omega)) ?_
  walk_at "go"
  refine wp_eq (hix _ hc) ?_
  walk_at "go"
  refine wp_eq (add_tT (by rw [List.length_append]; omega)) ?_
  walk_at "go"
  refine wp_eq (hix _ hc) ?_
  walk_at "go"
  refine wp_eq (add_tT (by rw [List.length_append, List.length_append]; omega)) ?_
  walk_at "go"
  walk_at "nx"
  refine draw_wp hp (by decide) fun dr s6 q0 q1 d => ?_
  refine wp_set (by rw [d.nxt]) (lb_int _ _) ?_
  replace hc := (d.get hne).trans hc
  replace hp := hp.dr d; clear d
  walk_at "go"
  obtain ⟨c, hcc⟩ := Int.eq_ofNat_of_zero_le (show 0 ≤ 1 + ((n : Int) + dr) % 4 by omega)
  rw [hcc, cutT_to (k := c) rfl (by rw [List.length_append, List.length_append, List.length_append]; omega)]
  have hol : ((b ++ b ++ b ++ b).take c).length = c := by rw [List.length_take, List.length_append, List.length_append, List.length_append]; omega
  have hcn : c ≠ n := by omega
  have hc5 : c ≤ 4 := by omega
  generalize (b ++ b ++ b ++ b).take c = o at hol ⊢
  walk_at "nx"
  refine wp_eq (hix _ hc) ?_
  walk_at "go"
  have hb0 : 0 < b.length := by omega
  refine wp_eq (tup_nat (k := 0) rfl hb0) ?_
  have hbc := ha.2 b[0] (List.getElem_mem hb0)
  walk_at "go"
  refine wp_eq (hix _ hc) ?_
  walk_at "go"
  refine wp_eq (tup_nat (k := 0) rfl hb0) ?_
  walk_at "go"
  rw [eqv_int, Bool.bne_false]
  obtain ⟨e, he, hsel⟩ : ∃ e : Int, (0 ≤ b[0] + e ∧ b[0] + e ≤ 99) ∧ atI [PV.int 1, PV.int (-1)] (if (b[0] == 99) = true then 1 else 0) = some (PV.int e) := by
    by_cases h9 : b[0] = 99
    · refine ⟨-1, by omega, ?_⟩
      rw [h9]; rfl
    · refine ⟨1, by omega, ?_⟩
      have : (b[0] == 99) = false := by simpa using h9
      rw [this]; rfl
  refine wp_eq (seq_ix (v := .lst [.int 1, .int (-1)]) rfl hsel) ?_
  walk_at "go"
  refine wp_eq (hix _ hc) ?_
  walk_at "go"
  rw [cutT_from (i := 1) (k := 1) rfl (by omega)]
  refine wp_eq (add_tT (a := [b[0] + e]) (b := b.drop 1) (by rw [List.length_singleton, List.length_drop]; omega)) ?_
  have hcl : Tm n ([b[0] + e] ++ b.drop 1) := by
    refine ⟨by rw [List.length_append, List.length_singleton, List.length_drop]; omega, fun z hz => ?_⟩
    rw [List.mem_append, List.mem_singleton] at hz
    rcases hz with rfl | hz
    · exact he
    · exact ha.2 z (List.mem_of_mem_drop hz)
  generalize [b[0] + e] ++ b.drop 1 = cl at hcl ⊢
  walk_at "go"
  walk_at "nx"
  refine wp_eq (hix _ hc) ?_
  walk_at "go"
  refine wp_eq (hix _ hc) ?_
  walk_at "go"
  refine wp_eq (add_rows (a := times) (b := [b, cl, b]) (by show _ + 3 ≤ _; omega)) ?_
  have hfu : Tms n (times ++ [b, cl, b]) := Tms_app ht fun z hz => by
    simp only [List.mem_cons, List.not_mem_nil, or_false] at hz
    rcases hz with rfl | rfl | rfl
    · exact ha
    · exact hcl
    · exact ha
  have hful : (times ++ [b, cl, b]).length ≤ 42 := by rw [List.length_append]; show _ + 3 ≤ _; omega
  generalize times ++ [b, cl, b] = fuller at hfu hful ⊢
  walk_at "go"
  walk_at "nx"
  have hrows : ∀ (k : Nat) y, ([.lst (times.map tT), .lst (fuller.map tT)] : List PV)[k]? = some y → ∃ a, y = .lst (a.map tT) ∧ Gd n a := fun k y hy => by
    have hm := List.mem_of_getElem? hy
    simp only [List.mem_cons, List.not_mem_nil, or_false] at hm
    rcases hm with rfl | rfl
    · exact ⟨times, rfl, ht, by omega⟩
    · exact ⟨fuller, rfl, hfu, by omega⟩
  refine forGo_wp (its := ⟨[.lst (times.map tT), .lst (fuller.map tT)], none⟩) (fun k env s => (∃ u11 u12 u13, env = [some (.ro (ns.map .int)), some (.loc p), some (.int n), some (.int span), some (.lst (times.map tT)), some (.loc pl), u6, some (tT (b ++ b ++ b ++ b)), some (tT o), some (tT cl), some (.lst (fuller.map tT)), u11, u12, u13, none]) ∧ s = s6) _ (fun k y env s hy hI => ?_) (fun env s hI => ?_) ⟨⟨_, _, _, rfl⟩, rfl⟩
  · obtain ⟨⟨u11, u12, u13, rfl⟩, rfl⟩ := hI
    obtain ⟨rows, rfl, hr1, hr2⟩ := hrows k y hy
    refine ⟨Its.ok_none, wp_eq rfl ?_⟩
    walk_at "st"
    refine wp_pos (okRng_iff.mpr ⟨by decide, by decide⟩) ?_
    walk_at "go"
    refine forGo_wp (its := ⟨rng 0 ((2 : Nat) : Int), none⟩) (fun k env s' => (∃ u12, env = [some (.ro (ns.map .int)), some (.loc p), some (.int n), some (.int span), some (.lst (times.map tT)), some (.loc pl), u6, some (tT (b ++ b ++ b ++ b)), some (tT o), some (tT cl), some (.lst (fuller.map tT)), some (.lst (rows.map tT)), u12, u13, none]) ∧ s' = s) _ (fun k y env s' hy hI => ?_) (fun env s' hI => ?_) ⟨⟨_, rfl⟩, rfl⟩
    · obtain ⟨⟨u12, rfl⟩, rfl⟩ := hI
      obtain ⟨hk, rfl⟩ := rng_get hy
      refine ⟨Its.ok_none, wp_eq rfl ?_⟩
      obtain ⟨side, hside⟩ : ∃ side : Bool, (0 : Int) + (k : Int) = if side then 1 else 0 := by
        by_cases h0 : k = 0
        · exact ⟨false, by subst h0; rfl⟩
        · exact ⟨true, by show (0 : Int) + (k : Int) = 1; omega⟩
      rw [hside]
      walk_at "go"
      refine wp_mono (ends_right_eq (extra := cl) (side := side) hn1 hn4 hr2 hr1) fun v s8 hv => ?_
      obtain ⟨rfl, rfl⟩ := hv
      walk_at "go"
      exact ⟨⟨_, rfl⟩, rfl⟩
    obtain ⟨⟨u12, rfl⟩, rfl⟩ := hI
    refine ⟨Its.ok_none, ?_⟩
    walk_at "go"
    refine wp_nx (by assumption) ?_
    walk_at "go"
    obtain ⟨src, i1, i2⟩ := itsOf_lst (lst_loc hc)
    refine wp_eq i1 ?_
    walk_at "go"
    refine forGo_wp (its := ⟨ps.map tT, src⟩) (fun k env s2 => (∃ u13, env = [some (.ro (ns.map .int)), some (.loc p), some (.int n), some (.int span), some (.lst (times.map tT)), some (.loc pl), u6, some (tT (b ++ b ++ b ++ b)), some (tT o), some (tT cl), some (.lst (fuller.map tT)), some (.lst (rows.map tT)), u12, u13, none]) ∧ s2 = s') _ (fun k y env s2 hy hI => ?_) (fun env s2 hI => ?_) ⟨⟨_, rfl⟩, rfl⟩
    · obtain ⟨⟨u13, rfl⟩, rfl⟩ := hI
      obtain ⟨pr, hpr, hm, rfl⟩ := get_map hy
      refine ⟨i2 _ fun _ _ => rfl, wp_eq rfl ?_⟩
      walk_at "go"
      refine wp_mono (met_right_eq hn1 hn4 hr2 hr1 (hps pr hm).1 (by rw [hol]; exact hcn) (by omega)) fun v s8 hv => ?_
      obtain ⟨rfl, rfl⟩ := hv
      walk_at "go"
      exact ⟨⟨_, rfl⟩, rfl⟩
    · obtain ⟨⟨u13, rfl⟩, rfl⟩ := hI
      refine ⟨i2 _ fun _ _ => rfl, ?_⟩
      exact ⟨⟨_, _, _, rfl⟩, rfl⟩
  obtain ⟨⟨u11, u12, u13, rfl⟩, rfl⟩ := hI
  refine ⟨Its.ok_none, ?_⟩
  walk_at "go"
  walk_at "nx"
  refine draw_wp hp (by decide) fun sd s7 z0 z1 d => ?_
  refine wp_set (by rw [d.nxt]) (lb_int _ _) ?_
  replace hp := hp.dr d; clear d
  obtain ⟨side, rfl⟩ : ∃ side : Bool, sd = if side then 1 else 0 := by
    by_cases h0 : sd = 0
    · exact ⟨false, h0⟩
    · exact ⟨true, by show sd = 1; omega⟩
  walk_at "go"
  refine ends_wp (side := side) hn1 hn4 (by omega) hfu ?_
  refine wp_settle settle_new ?_
  walk_at "go"
  have hel : (endsL side fuller).length ≤ fuller.length := endsL_len
  refine lists_wp hp hn1 hn4 (endsL_Tms hfu) (by omega) hfu (by omega) fun R s8 hR hRl d => ?_
  refine wp_settle (settle_at d.nxt.symm) ?_
  rw [add_lst (b := R.map rowP) rfl]
  refine wp_eq (a := .lst ((times :: R).map rowP)) (s := s8) (mkV_eq (okL (by rw [List.length_append, List.length_map, List.length_singleton]; omega))) ?_
  have hR2 : ∀ a ∈ times :: R, Gd n a := fun a ha => by
    rcases List.mem_cons.mp ha with rfl | ha
    · exact ⟨ht, by omega⟩
    · exact hR a ha
  generalize times :: R = R' at hR2 ⊢
  walk_at "go"
  refine forGo_wp (its := ⟨R'.map rowP, none⟩) (fun k env s => (∃ u11 u14, env = [some (.ro (ns.map .int)), some (.loc p), some (.int n), some (.int span), some (.lst (times.map tT)), some (.loc pl), u6, some (tT (b ++ b ++ b ++ b)), some (tT o), some (tT cl), some (.lst (fuller.map tT)), u11, u12, u13, u14]) ∧ s = s8) _ (fun k y env s hy hI => ?_) (fun env s hI => ?_) ⟨⟨_, _, rfl⟩, rfl⟩
  · obtain ⟨⟨u11, u14, rfl⟩, rfl⟩ := hI
    obtain ⟨rows, hrr, hm, rfl⟩ := get_map hy
    obtain ⟨hr1, hr2⟩ := hR2 rows hm
    refine ⟨Its.ok_none, wp_eq rfl ?_⟩
    unfold rowP
    walk_at "go"
    refine wp_eq (bList_v (v := .lst (rows.map tT)) rfl (by rw [List.length_map]; omega)) ?_
    walk_at "go"
    refine wp_eq (is_frontier_eq hn1 hn4 hr2 hr1) ?_
    walk_at "go"
    refine wp_eq (front_eq hn4 hr2 hr1) ?_
    walk_at "go"
    refine wp_eq (same_ok (v := .bl (decide (rows = lowL rows))) rfl rfl plain_bl) ?_
    walk_at "go"
    refine wp_eq (same_ok (v := .lst (rows.map tT)) rfl rfl (plain_rowsM (by omega) hr1 hn4)) ?_
    walk_at "go"
    exact ⟨⟨_, _, rfl⟩, rfl⟩
  · obtain ⟨⟨u11, u14, rfl⟩, rfl⟩ := hI
    refine ⟨Its.ok_none, ?_⟩
    walk_at "go"
    walk_at "nx"
    rfl
end DL

namespace DL
open PySem PySem.Spec PyProof.Rows L2
theorem all_mk {l : PySem.W.OpenLaw} {w : World} {K : PySem.W.Frag} {h : Heap} {mg : Str → Option Value} {fa : Addr} (X : K.In h) (G : h.Ns mainGlobals mg) (hfa : mg "law" = some (.ref fa))
    (hl : ∀ ns : List Int, ns.length ≤ 63 → ∃ st, f_law [.ro (ns.map .int)] st0 = some (.bl true, st))
    {f1 f2 f3 f4 f5 f6 f7 f8 f9 f10 f11 f12 f13 f14 f15 f16 f17 f18 f19 f20 f21 f22 f23 f24 : Addr}
    {od1 an1 od2 an2 od3 an3 od4 an4 od5 an5 od6 an6 od7 an7 od8 an8 od9 an9 od10 an10 od11 an11 od12 an12 od13 an13 od14 an14 od15 an15 od16 an16 od17 an17 od18 an18 od19 an19 od20 an20 od21 an21 od22 an22 od23 an23 od24 an24 : Option Addr} {sl1 sl2 sl3 sl4 sl5 sl6 sl7 sl8 sl9 sl10 sl11 sl12 sl13 sl14 sl15 sl16 sl17 sl18 sl19 sl20 sl21 sl22 sl23 sl24 : Array (Option Value)} {oc1 kV1 dc1 pm1 cd1 ct1 oc2 kV2 dc2 pm2 cd2 ct2 oc3 kV3 dc3 pm3 cd3 ct3 oc4 kV4 dc4 pm4 cd4 ct4 oc5 kV5 dc5 pm5 cd5 ct5 oc6 kV6 dc6 pm6 cd6 ct6 oc7 kV7 dc7 pm7 cd7 ct7 oc8 kV8 dc8 pm8 cd8 ct8 oc9 kV9 dc9 pm9 cd9 ct9 oc10 kV10 dc10 pm10 cd10 ct10 oc11 kV11 dc11 pm11 cd11 ct11 oc12 kV12 dc12 pm12 cd12 ct12 oc13 kV13 dc13 pm13 cd13 ct13 oc14 kV14 dc14 pm14 cd14 ct14 oc15 kV15 dc15 pm15 cd15 ct15 oc16 kV16 dc16 pm16 cd16 ct16 oc17 kV17 dc17 pm17 cd17 ct17 oc18 kV18 dc18 pm18 cd18 ct18 oc19 kV19 dc19 pm19 cd19 ct19 oc20 kV20 dc20 pm20 cd20 ct20 oc21 kV21 dc21 pm21 cd21 ct21 oc22 kV22 dc22 pm22 cd22 ct22 oc23 kV23 dc23 pm23 cd23 ct23 oc24 kV24 dc24 pm24 cd24 ct24 : Value}
    (a1 : PySem.W.nsIn K mainGlobals "leq" = some (some (.ref f1))) (l1 : K.lookup f1 = some ⟨oc1, od1, .func (PySem.W.fnOf "leq" "leq" (defArgs s_leq) (defBody s_leq) (defScope s_leq) .none kV1 dc1 pm1 an1 cd1 ct1), sl1⟩) (c1 : PySem.W.codeIn K cd1 "leq" = true) (k1 : PySem.W.keepIn K (.ref f1) = true)
    (a2 : PySem.W.nsIn K mainGlobals "covers" = some (some (.ref f2))) (l2 : K.lookup f2 = some ⟨oc2, od2, .func (PySem.W.fnOf "covers" "covers" (defArgs s_covers) (defBody s_covers) (defScope s_covers) .none kV2 dc2 pm2 an2 cd2 ct2), sl2⟩) (c2 : PySem.W.codeIn K cd2 "covers" = true) (k2 : PySem.W.keepIn K (.ref f2) = true)
    (a3 : PySem.W.nsIn K mainGlobals "under" = some (some (.ref f3))) (l3 : K.lookup f3 = some ⟨oc3, od3, .func (PySem.W.fnOf "under" "under" (defArgs s_under) (defBody s_under) (defScope s_under) .none kV3 dc3 pm3 an3 cd3 ct3), sl3⟩) (c3 : PySem.W.codeIn K cd3 "under" = true) (k3 : PySem.W.keepIn K (.ref f3) = true)
    (a4 : PySem.W.nsIn K mainGlobals "lowest" = some (some (.ref f4))) (l4 : K.lookup f4 = some ⟨oc4, od4, .func (PySem.W.fnOf "lowest" "lowest" (defArgs s_lowest) (defBody s_lowest) (defScope s_lowest) .none kV4 dc4 pm4 an4 cd4 ct4), sl4⟩) (c4 : PySem.W.codeIn K cd4 "lowest" = true) (k4 : PySem.W.keepIn K (.ref f4) = true)
    (a5 : PySem.W.nsIn K mainGlobals "highest" = some (some (.ref f5))) (l5 : K.lookup f5 = some ⟨oc5, od5, .func (PySem.W.fnOf "highest" "highest" (defArgs s_highest) (defBody s_highest) (defScope s_highest) .none kV5 dc5 pm5 an5 cd5 ct5), sl5⟩) (c5 : PySem.W.codeIn K cd5 "highest" = true) (k5 : PySem.W.keepIn K (.ref f5) = true)
    (a6 : PySem.W.nsIn K mainGlobals "is_frontier" = some (some (.ref f6))) (l6 : K.lookup f6 = some ⟨oc6, od6, .func (PySem.W.fnOf "is_frontier" "is_frontier" (defArgs s_is_frontier) (defBody s_is_frontier) (defScope s_is_frontier) .none kV6 dc6 pm6 an6 cd6 ct6), sl6⟩) (c6 : PySem.W.codeIn K cd6 "is_frontier" = true) (k6 : PySem.W.keepIn K (.ref f6) = true)
    (a7 : PySem.W.nsIn K mainGlobals "_law_mix" = some (some (.ref f7))) (l7 : K.lookup f7 = some ⟨oc7, od7, .func (PySem.W.fnOf "_law_mix" "_law_mix" (defArgs s_law_mix) (defBody s_law_mix) (defScope s_law_mix) .none kV7 dc7 pm7 an7 cd7 ct7), sl7⟩) (c7 : PySem.W.codeIn K cd7 "_law_mix" = true) (k7 : PySem.W.keepIn K (.ref f7) = true)
    (a8 : PySem.W.nsIn K mainGlobals "_law_pool" = some (some (.ref f8))) (l8 : K.lookup f8 = some ⟨oc8, od8, .func (PySem.W.fnOf "_law_pool" "_law_pool" (defArgs s_law_pool) (defBody s_law_pool) (defScope s_law_pool) .none kV8 dc8 pm8 an8 cd8 ct8), sl8⟩) (c8 : PySem.W.codeIn K cd8 "_law_pool" = true) (k8 : PySem.W.keepIn K (.ref f8) = true)
    (a9 : PySem.W.nsIn K mainGlobals "_law_draw" = some (some (.ref f9))) (l9 : K.lookup f9 = some ⟨oc9, od9, .func (PySem.W.fnOf "_law_draw" "_law_draw" (defArgs s_law_draw) (defBody s_law_draw) (defScope s_law_draw) .none kV9 dc9 pm9 an9 cd9 ct9), sl9⟩) (c9 : PySem.W.codeIn K cd9 "_law_draw" = true) (k9 : PySem.W.keepIn K (.ref f9) = true)
    (a10 : PySem.W.nsIn K mainGlobals "_law_pick" = some (some (.ref f10))) (l10 : K.lookup f10 = some ⟨oc10, od10, .func (PySem.W.fnOf "_law_pick" "_law_pick" (defArgs s_law_pick) (defBody s_law_pick) (defScope s_law_pick) .none kV10 dc10 pm10 an10 cd10 ct10), sl10⟩) (c10 : PySem.W.codeIn K cd10 "_law_pick" = true) (k10 : PySem.W.keepIn K (.ref f10) = true)
    (a11 : PySem.W.nsIn K mainGlobals "_law_whole" = some (some (.ref f11))) (l11 : K.lookup f11 = some ⟨oc11, od11, .func (PySem.W.fnOf "_law_whole" "_law_whole" (defArgs s_law_whole) (defBody s_law_whole) (defScope s_law_whole) .none kV11 dc11 pm11 an11 cd11 ct11), sl11⟩) (c11 : PySem.W.codeIn K cd11 "_law_whole" = true) (k11 : PySem.W.keepIn K (.ref f11) = true)
    (a12 : PySem.W.nsIn K mainGlobals "_law_plain" = some (some (.ref f12))) (l12 : K.lookup f12 = some ⟨oc12, od12, .func (PySem.W.fnOf "_law_plain" "_law_plain" (defArgs s_law_plain) (defBody s_law_plain) (defScope s_law_plain) .none kV12 dc12 pm12 an12 cd12 ct12), sl12⟩) (c12 : PySem.W.codeIn K cd12 "_law_plain" = true) (k12 : PySem.W.keepIn K (.ref f12) = true)
    (a13 : PySem.W.nsIn K mainGlobals "_law_same" = some (some (.ref f13))) (l13 : K.lookup f13 = some ⟨oc13, od13, .func (PySem.W.fnOf "_law_same" "_law_same" (defArgs s_law_same) (defBody s_law_same) (defScope s_law_same) .none kV13 dc13 pm13 an13 cd13 ct13), sl13⟩) (c13 : PySem.W.codeIn K cd13 "_law_same" = true) (k13 : PySem.W.keepIn K (.ref f13) = true)
    (a14 : PySem.W.nsIn K mainGlobals "_law_leq" = some (some (.ref f14))) (l14 : K.lookup f14 = some ⟨oc14, od14, .func (PySem.W.fnOf "_law_leq" "_law_leq" (defArgs s_law_leq) (defBody s_law_leq) (defScope s_law_leq) .none kV14 dc14 pm14 an14 cd14 ct14), sl14⟩) (c14 : PySem.W.codeIn K cd14 "_law_leq" = true) (k14 : PySem.W.keepIn K (.ref f14) = true)
    (a15 : PySem.W.nsIn K mainGlobals "_law_moment" = some (some (.ref f15))) (l15 : K.lookup f15 = some ⟨oc15, od15, .func (PySem.W.fnOf "_law_moment" "_law_moment" (defArgs s_law_moment) (defBody s_law_moment) (defScope s_law_moment) .none kV15 dc15 pm15 an15 cd15 ct15), sl15⟩) (c15 : PySem.W.codeIn K cd15 "_law_moment" = true) (k15 : PySem.W.keepIn K (.ref f15) = true)
    (a16 : PySem.W.nsIn K mainGlobals "_law_near" = some (some (.ref f16))) (l16 : K.lookup f16 = some ⟨oc16, od16, .func (PySem.W.fnOf "_law_near" "_law_near" (defArgs s_law_near) (defBody s_law_near) (defScope s_law_near) .none kV16 dc16 pm16 an16 cd16 ct16), sl16⟩) (c16 : PySem.W.codeIn K cd16 "_law_near" = true) (k16 : PySem.W.keepIn K (.ref f16) = true)
    (a17 : PySem.W.nsIn K mainGlobals "_law_listed" = some (some (.ref f17))) (l17 : K.lookup f17 = some ⟨oc17, od17, .func (PySem.W.fnOf "_law_listed" "_law_listed" (defArgs s_law_listed) (defBody s_law_listed) (defScope s_law_listed) .none kV17 dc17 pm17 an17 cd17 ct17), sl17⟩) (c17 : PySem.W.codeIn K cd17 "_law_listed" = true) (k17 : PySem.W.keepIn K (.ref f17) = true)
    (a18 : PySem.W.nsIn K mainGlobals "_law_ends" = some (some (.ref f18))) (l18 : K.lookup f18 = some ⟨oc18, od18, .func (PySem.W.fnOf "_law_ends" "_law_ends" (defArgs s_law_ends) (defBody s_law_ends) (defScope s_law_ends) .none kV18 dc18 pm18 an18 cd18 ct18), sl18⟩) (c18 : PySem.W.codeIn K cd18 "_law_ends" = true) (k18 : PySem.W.keepIn K (.ref f18) = true)
    (a19 : PySem.W.nsIn K mainGlobals "_law_ask" = some (some (.ref f19))) (l19 : K.lookup f19 = some ⟨oc19, od19, .func (PySem.W.fnOf "_law_ask" "_law_ask" (defArgs s_law_ask) (defBody s_law_ask) (defScope s_law_ask) .none kV19 dc19 pm19 an19 cd19 ct19), sl19⟩) (c19 : PySem.W.codeIn K cd19 "_law_ask" = true) (k19 : PySem.W.keepIn K (.ref f19) = true)
    (a20 : PySem.W.nsIn K mainGlobals "_law_ends_right" = some (some (.ref f20))) (l20 : K.lookup f20 = some ⟨oc20, od20, .func (PySem.W.fnOf "_law_ends_right" "_law_ends_right" (defArgs s_law_ends_right) (defBody s_law_ends_right) (defScope s_law_ends_right) .none kV20 dc20 pm20 an20 cd20 ct20), sl20⟩) (c20 : PySem.W.codeIn K cd20 "_law_ends_right" = true) (k20 : PySem.W.keepIn K (.ref f20) = true)
    (a21 : PySem.W.nsIn K mainGlobals "_law_met_right" = some (some (.ref f21))) (l21 : K.lookup f21 = some ⟨oc21, od21, .func (PySem.W.fnOf "_law_met_right" "_law_met_right" (defArgs s_law_met_right) (defBody s_law_met_right) (defScope s_law_met_right) .none kV21 dc21 pm21 an21 cd21 ct21), sl21⟩) (c21 : PySem.W.codeIn K cd21 "_law_met_right" = true) (k21 : PySem.W.keepIn K (.ref f21) = true)
    (a22 : PySem.W.nsIn K mainGlobals "_law_front" = some (some (.ref f22))) (l22 : K.lookup f22 = some ⟨oc22, od22, .func (PySem.W.fnOf "_law_front" "_law_front" (defArgs s_law_front) (defBody s_law_front) (defScope s_law_front) .none kV22 dc22 pm22 an22 cd22 ct22), sl22⟩) (c22 : PySem.W.codeIn K cd22 "_law_front" = true) (k22 : PySem.W.keepIn K (.ref f22) = true)
    (a23 : PySem.W.nsIn K mainGlobals "_law_lists" = some (some (.ref f23))) (l23 : K.lookup f23 = some ⟨oc23, od23, .func (PySem.W.fnOf "_law_lists" "_law_lists" (defArgs s_law_lists) (defBody s_law_lists) (defScope s_law_lists) .none kV23 dc23 pm23 an23 cd23 ct23), sl23⟩) (c23 : PySem.W.codeIn K cd23 "_law_lists" = true) (k23 : PySem.W.keepIn K (.ref f23) = true)
    (a24 : PySem.W.nsIn K mainGlobals "law" = some (some (.ref f24))) (l24 : K.lookup f24 = some ⟨oc24, od24, .func (PySem.W.fnOf "law" "law" (defArgs s_law) (defBody s_law) (defScope s_law) .none kV24 dc24 pm24 an24 cd24 ct24), sl24⟩) (c24 : PySem.W.codeIn K cd24 "law" = true) (k24 : PySem.W.keepIn K (.ref f24) = true)
    (z0 : PySem.W.nsIn K mainGlobals "len" = some none)
    (z1 : PySem.W.nsIn K mainGlobals "abs" = some none)
    (z2 : PySem.W.nsIn K mainGlobals "int" = some none)
    (z3 : PySem.W.nsIn K mainGlobals "max" = some none)
    (z4 : PySem.W.nsIn K mainGlobals "min" = some none)
    (z5 : PySem.W.nsIn K mainGlobals "tuple" = some none)
    (z6 : PySem.W.nsIn K mainGlobals "list" = some none)
    (z7 : PySem.W.nsIn K mainGlobals "sorted" = some none)
    (z8 : PySem.W.nsIn K mainGlobals "isinstance" = some none)
    (z9 : PySem.W.nsIn K mainGlobals "range" = some none)
    (z10 : PySem.W.nsIn K mainGlobals "bool" = some none)
    (z11 : PySem.W.nsIn K mainGlobals "str" = some none)
    (z12 : PySem.W.nsIn K mainGlobals "dict" = some none)
    (z13 : PySem.W.nsIn K mainGlobals "set" = some none)
    (z14 : PySem.W.nsIn K mainGlobals "reversed" = some none)
    : ∃ fd : FuncData, (∀ (s : Shared) (v : Value), BindsTo s fd ⟨[v], []⟩ [("script", v)]) ∧ ∀ base : Heap, K.In base → base.Ns mainGlobals mg → FnOk l.prog w K mg base CX0 15 fa fd ["script"] (spLaw K) := by
  have e := hfa.symm.trans (PySem.W.mg_of X G a24)
  cases e
  have B : BsOk mg := by
    intro n hn
    have hn : n ∈ bs := List.contains_iff_mem.mp hn
    simp only [bs, List.mem_cons, List.not_mem_nil, or_false] at hn
    rcases hn with rfl | rfl | rfl | rfl | rfl | rfl | rfl | rfl | rfl | rfl | rfl | rfl | rfl | rfl | rfl
    · exact PySem.W.mg_none_of X G z0
    · exact PySem.W.mg_none_of X G z1
    · exact PySem.W.mg_none_of X G z2
    · exact PySem.W.mg_none_of X G z3
    · exact PySem.W.mg_none_of X G z4
    · exact PySem.W.mg_none_of X G z5
    · exact PySem.W.mg_none_of X G z6
    · exact PySem.W.mg_none_of X G z7
    · exact PySem.W.mg_none_of X G z8
    · exact PySem.W.mg_none_of X G z9
    · exact PySem.W.mg_none_of X G z10
    · exact PySem.W.mg_none_of X G z11
    · exact PySem.W.mg_none_of X G z12
    · exact PySem.W.mg_none_of X G z13
    · exact PySem.W.mg_none_of X G z14
  refine ⟨PySem.W.fnOf "law" "law" (defArgs s_law) (defBody s_law) (defScope s_law) .none kV24 dc24 pm24 an24 cd24 ct24, fun s v => .of_eq rfl, fun base _ _ => ?_⟩
  have E1 := e_leq (P := l.prog) (w := w) (base := base) (fun_mk (st := s_leq) l1 c1 k1) (PySem.W.mg_of X G a1) B
  have E2 := e_covers (P := l.prog) (w := w) (base := base) (fun_mk (st := s_covers) l2 c2 k2) (PySem.W.mg_of X G a2) B E1
  have E3 := e_under (P := l.prog) (w := w) (base := base) (fun_mk (st := s_under) l3 c3 k3) (PySem.W.mg_of X G a3) B E1
  have E4 := e_lowest (P := l.prog) (w := w) (base := base) (fun_mk (st := s_lowest) l4 c4 k4) (PySem.W.mg_of X G a4) B E2
  have E5 := e_highest (P := l.prog) (w := w) (base := base) (fun_mk (st := s_highest) l5 c5 k5) (PySem.W.mg_of X G a5) B E3
  have E6 := e_is_frontier (P := l.prog) (w := w) (base := base) (fun_mk (st := s_is_frontier) l6 c6 k6) (PySem.W.mg_of X G a6) B E4
  have E7 := e_law_mix (P := l.prog) (w := w) (base := base) (fun_mk (st := s_law_mix) l7 c7 k7) (PySem.W.mg_of X G a7) B
  have E8 := e_law_pool (P := l.prog) (w := w) (base := base) (fun_mk (st := s_law_pool) l8 c8 k8) (PySem.W.mg_of X G a8) B E7
  have E9 := e_law_draw (P := l.prog) (w := w) (base := base) (fun_mk (st := s_law_draw) l9 c9 k9) (PySem.W.mg_of X G a9) B E7
  have E10 := e_law_pick (P := l.prog) (w := w) (base := base) (fun_mk (st := s_law_pick) l10 c10 k10) (PySem.W.mg_of X G a10) B E9
  have E11 := e_law_whole (P := l.prog) (w := w) (base := base) (fun_mk (st := s_law_whole) l11 c11 k11) (PySem.W.mg_of X G a11) B
  have E12 := e_law_plain (P := l.prog) (w := w) (base := base) (fun_mk (st := s_law_plain) l12 c12 k12) (PySem.W.mg_of X G a12) B E11 6
  have E13 := e_law_same (P := l.prog) (w := w) (base := base) (fun_mk (st := s_law_same) l13 c13 k13) (PySem.W.mg_of X G a13) B E11 E12 6
  have E14 := e_law_leq (P := l.prog) (w := w) (base := base) (fun_mk (st := s_law_leq) l14 c14 k14) (PySem.W.mg_of X G a14) B
  have E15 := e_law_moment (P := l.prog) (w := w) (base := base) (fun_mk (st := s_law_moment) l15 c15 k15) (PySem.W.mg_of X G a15) B E9
  have E16 := e_law_near (P := l.prog) (w := w) (base := base) (fun_mk (st := s_law_near) l16 c16 k16) (PySem.W.mg_of X G a16) B E10
  have E17 := e_law_listed (P := l.prog) (w := w) (base := base) (fun_mk (st := s_law_listed) l17 c17 k17) (PySem.W.mg_of X G a17) B E9 E10 E15 E16
  have E18 := e_law_ends (P := l.prog) (w := w) (base := base) (fun_mk (st := s_law_ends) l18 c18 k18) (PySem.W.mg_of X G a18) B E14
  have E19 := e_law_ask (P := l.prog) (w := w) (base := base) (fun_mk (st := s_law_ask) l19 c19 k19) (PySem.W.mg_of X G a19) B E5 E4
  have E20 := e_law_ends_right (P := l.prog) (w := w) (base := base) (fun_mk (st := s_law_ends_right) l20 c20 k20) (PySem.W.mg_of X G a20) B E18 E19 E13
  have E21 := e_law_met_right (P := l.prog) (w := w) (base := base) (fun_mk (st := s_law_met_right) l21 c21 k21) (PySem.W.mg_of X G a21) B E13 E14 E2 E3 E4 E5
  have E22 := e_law_front (P := l.prog) (w := w) (base := base) (fun_mk (st := s_law_front) l22 c22 k22) (PySem.W.mg_of X G a22) B E14
  have E23 := e_law_lists (P := l.prog) (w := w) (base := base) (fun_mk (st := s_law_lists) l23 c23 k23) (PySem.W.mg_of X G a23) B E9 E10
  unfold f_law at hl
  exact law_end (fn_tr (k := 14) (fun_mk (st := s_law) l24 c24 k24) sc_law (GAll.cons (E8.mono (by decide)) (GAll.cons (E10.mono (by decide)) (GAll.cons (E17.mono (by decide)) (GAll.cons (E15.mono (by decide)) (GAll.cons (E23.mono (by decide)) (GAll.cons (E16.mono (by decide)) (GAll.cons (E18.mono (by decide)) (GAll.cons (E20.mono (by decide)) (GAll.cons (E21.mono (by decide)) (GAll.cons (E9.mono (by decide)) (GAll.cons (E13.mono (by decide)) (GAll.cons (E6.mono (by decide)) (GAll.cons (E22.mono (by decide)) GAll.nil))))))))))))) B t_law) hl
end DL
open DL
open PySem PySem.W PyProof.Rows in
set_option maxRecDepth 100000 in
set_option maxHeartbeats 0 in
theorem PySem.Challenge.cw_deltastead_k01_frontiers_holds : PySem.Challenge.rw_deltastead_k01_frontiers.Holds := by
  w_on; o_law; k_head; (case hw => w_witness2)
  k_fill
  refine DL.walk (l := PySem.Challenge.rw_deltastead_k01_frontiers) (k := 15) (by decide) rfl rfl (fun w h Y => PySem.W.kIn_of Y) ?F
  case F =>
    intro w mg fa h KX G hmg
    refine' all_mk KX G hmg law_true ?a1 ?l1 ?c1 ?k1 ?a2 ?l2 ?c2 ?k2 ?a3 ?l3 ?c3 ?k3 ?a4 ?l4 ?c4 ?k4 ?a5 ?l5 ?c5 ?k5 ?a6 ?l6 ?c6 ?k6 ?a7 ?l7 ?c7 ?k7 ?a8 ?l8 ?c8 ?k8 ?a9 ?l9 ?c9 ?k9 ?a10 ?l10 ?c10 ?k10 ?a11 ?l11 ?c11 ?k11 ?a12 ?l12 ?c12 ?k12 ?a13 ?l13 ?c13 ?k13 ?a14 ?l14 ?c14 ?k14 ?a15 ?l15 ?c15 ?k15 ?a16 ?l16 ?c16 ?k16 ?a17 ?l17 ?c17 ?k17 ?a18 ?l18 ?c18 ?k18 ?a19 ?l19 ?c19 ?k19 ?a20 ?l20 ?c20 ?k20 ?a21 ?l21 ?c21 ?k21 ?a22 ?l22 ?c22 ?k22 ?a23 ?l23 ?c23 ?k23 ?a24 ?l24 ?c24 ?k24 ?z0 ?z1 ?z2 ?z3 ?z4 ?z5 ?z6 ?z7 ?z8 ?z9 ?z10 ?z11 ?z12 ?z13 ?z14
    (case a1 => k_is)
    (case l1 => k_is)
    (case c1 => k_is)
    (case k1 => k_is)
    (case a2 => k_is)
    (case l2 => k_is)
    (case c2 => k_is)
    (case k2 => k_is)
    (case a3 => k_is)
    (case l3 => k_is)
    (case c3 => k_is)
    (case k3 => k_is)
    (case a4 => k_is)
    (case l4 => k_is)
    (case c4 => k_is)
    (case k4 => k_is)
    (case a5 => k_is)
    (case l5 => k_is)
    (case c5 => k_is)
    (case k5 => k_is)
    (case a6 => k_is)
    (case l6 => k_is)
    (case c6 => k_is)
    (case k6 => k_is)
    (case a7 => k_is)
    (case l7 => k_is)
    (case c7 => k_is)
    (case k7 => k_is)
    (case a8 => k_is)
    (case l8 => k_is)
    (case c8 => k_is)
    (case k8 => k_is)
    (case a9 => k_is)
    (case l9 => k_is)
    (case c9 => k_is)
    (case k9 => k_is)
    (case a10 => k_is)
    (case l10 => k_is)
    (case c10 => k_is)
    (case k10 => k_is)
    (case a11 => k_is)
    (case l11 => k_is)
    (case c11 => k_is)
    (case k11 => k_is)
    (case a12 => k_is)
    (case l12 => k_is)
    (case c12 => k_is)
    (case k12 => k_is)
    (case a13 => k_is)
    (case l13 => k_is)
    (case c13 => k_is)
    (case k13 => k_is)
    (case a14 => k_is)
    (case l14 => k_is)
    (case c14 => k_is)
    (case k14 => k_is)
    (case a15 => k_is)
    (case l15 => k_is)
    (case c15 => k_is)
    (case k15 => k_is)
    (case a16 => k_is)
    (case l16 => k_is)
    (case c16 => k_is)
    (case k16 => k_is)
    (case a17 => k_is)
    (case l17 => k_is)
    (case c17 => k_is)
    (case k17 => k_is)
    (case a18 => k_is)
    (case l18 => k_is)
    (case c18 => k_is)
    (case k18 => k_is)
    (case a19 => k_is)
    (case l19 => k_is)
    (case c19 => k_is)
    (case k19 => k_is)
    (case a20 => k_is)
    (case l20 => k_is)
    (case c20 => k_is)
    (case k20 => k_is)
    (case a21 => k_is)
    (case l21 => k_is)
    (case c21 => k_is)
    (case k21 => k_is)
    (case a22 => k_is)
    (case l22 => k_is)
    (case c22 => k_is)
    (case k22 => k_is)
    (case a23 => k_is)
    (case l23 => k_is)
    (case c23 => k_is)
    (case k23 => k_is)
    (case a24 => k_is)
    (case l24 => k_is)
    (case c24 => k_is)
    (case k24 => k_is)
    (case z0 => k_is)
    (case z1 => k_is)
    (case z2 => k_is)
    (case z3 => k_is)
    (case z4 => k_is)
    (case z5 => k_is)
    (case z6 => k_is)
    (case z7 => k_is)
    (case z8 => k_is)
    (case z9 => k_is)
    (case z10 => k_is)
    (case z11 => k_is)
    (case z12 => k_is)
    (case z13 => k_is)
    (case z14 => k_is)

