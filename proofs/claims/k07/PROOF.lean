import PyProof.Rows.All
import Wide.All
import OpenK.AllK
import Wide.FinOn
import HandS.ForMost
import HandS.TupAny
import HandS.TupMul
import HandS.IsInst
import HandS.Deep
import HandS.TupSets
import HandS.Rev
import HandS.DictComp
import HandS.Conv
import HandS.TupLen
import KE.KDictKeyed
import KE.KeyNested
import KE.SortData
import PyProof.Rows.StrTemp
import PySem.Challenge.RW_deltastead_k07_whole_only_and_shortest
set_option Elab.async false
set_option linter.all false
set_option maxRecDepth 100000
set_option maxHeartbeats 4000000
/-! DL0: values without a heap (PV), a store of what may still change (Sto), and what a piece of a text computes over them. -/
namespace DL
open PySem L2

/-- a value: tuples and lists that nobody changes any more are told by their items; what may change stands in the store, at a place -/
inductive PV where
  | non | bl (b : Bool) | int (i : Int) | str (x : Str)
  | tup (xs : List PV) | lst (xs : List PV) | ro (xs : List PV)
  | dct (ks vs : List PV) | loc (l : Nat)

/-- what stands at a place (no places within) -/
inductive Cell where
  | lst (xs : List PV) | dct (ks vs : List PV)

/-! ### places within a value -/
mutual
def PV.lb (n : Nat) : PV → Bool
  | .tup xs => lbs n xs
  | .lst xs => lbs n xs
  | .ro xs => lbs n xs
  | .dct ks vs => lbs n ks && lbs n vs
  | .loc l => decide (l < n)
  | .non => true
  | .bl _ => true
  | .int _ => true
  | .str _ => true
def lbs (n : Nat) : List PV → Bool
  | [] => true
  | x :: r => x.lb n && lbs n r
end
mutual
theorem PV.lb_mono {n m : Nat} (q : n ≤ m) : ∀ {v : PV}, v.lb n = true → v.lb m = true
  | .tup xs, h => by rw [PV.lb] at h ⊢; exact lbs_mono q h
  | .lst xs, h => by rw [PV.lb] at h ⊢; exact lbs_mono q h
  | .ro xs, h => by rw [PV.lb] at h ⊢; exact lbs_mono q h
  | .dct ks vs, h => by
    rw [PV.lb, Bool.and_eq_true] at h ⊢
    exact ⟨lbs_mono q h.1, lbs_mono q h.2⟩
  | .loc l, h => by
    rw [PV.lb, decide_eq_true_eq] at h ⊢
    omega
  | .non, _ => by rw [PV.lb]
  | .bl _, _ => by rw [PV.lb]
  | .int _, _ => by rw [PV.lb]
  | .str _, _ => by rw [PV.lb]
theorem lbs_mono {n m : Nat} (q : n ≤ m) : ∀ {xs : List PV}, lbs n xs = true → lbs m xs = true
  | [], _ => by rw [lbs]
  | x :: r, h => by
    rw [lbs, Bool.and_eq_true] at h ⊢
    exact ⟨PV.lb_mono q h.1, lbs_mono q h.2⟩
end
theorem lbs_all {n : Nat} : ∀ {xs : List PV}, lbs n xs = xs.all (PV.lb n)
  | [] => by rw [lbs]; rfl
  | x :: r => by rw [lbs, List.all_cons, lbs_all]
theorem lbs_append {n : Nat} {xs ys : List PV} : lbs n (xs ++ ys) = (lbs n xs && lbs n ys) := by
  rw [lbs_all, lbs_all, lbs_all, List.all_append]
theorem lbs_map {α : Type} {n : Nat} {f : α → PV} (h : ∀ a, (f a).lb n = true) (l : List α) : lbs n (l.map f) = true := by
  rw [lbs_all, List.all_map, List.all_eq_true]
  intro x _
  exact h x
theorem lb_int (n : Nat) (i : Int) : (PV.int i).lb n = true := by rw [PV.lb]
theorem lb_bl (n : Nat) (i : Bool) : (PV.bl i).lb n = true := by rw [PV.lb]
theorem lb_non (n : Nat) : PV.non.lb n = true := by rw [PV.lb]
theorem lb_str (n : Nat) (i : Str) : (PV.str i).lb n = true := by rw [PV.lb]
theorem lb_tup (n : Nat) (xs : List PV) : (PV.tup xs).lb n = lbs n xs := by rw [PV.lb]
theorem lb_lst (n : Nat) (xs : List PV) : (PV.lst xs).lb n = lbs n xs := by rw [PV.lb]
theorem lb_ro (n : Nat) (xs : List PV) : (PV.ro xs).lb n = lbs n xs := by rw [PV.lb]
theorem lb_loc (n l : Nat) : (PV.loc l).lb n = decide (l < n) := by rw [PV.lb]
theorem lbs_nil (n : Nat) : lbs n [] = true := by rw [lbs]
theorem lbs_cons (n : Nat) (x : PV) (r : List PV) : lbs n (x :: r) = (x.lb n && lbs n r) := by rw [lbs]

def Cell.val : Cell → PV
  | .lst xs => .lst xs
  | .dct ks vs => .dct ks vs
def Cell.lb (n : Nat) : Cell → Bool
  | .lst xs => lbs n xs
  | .dct ks vs => lbs n ks && lbs n vs
theorem Cell.lb_mono {n m : Nat} (q : n ≤ m) {c : Cell} (h : c.lb n = true) : c.lb m = true := by
  cases c with
  | lst xs => exact lbs_mono q h
  | dct ks vs =>
    have h : (lbs n ks && lbs n vs) = true := h
    rw [Bool.and_eq_true] at h
    show (lbs m ks && lbs m vs) = true
    rw [lbs_mono q h.1, lbs_mono q h.2]; rfl
theorem Cell.lb_val {n : Nat} {c : Cell} : c.val.lb n = c.lb n := by
  cases c with
  | lst xs => show (PV.lst xs).lb n = lbs n xs; rw [PV.lb]
  | dct ks vs => show (PV.dct ks vs).lb n = (lbs n ks && lbs n vs); rw [PV.lb]

/-! ### the store -/
structure Sto where
  nxt : Nat
  cs : Nat → Option Cell
  wf : ∀ l, nxt ≤ l → cs l = none
  wc : ∀ l c, cs l = some c → c.lb nxt = true

theorem Sto.ext' {a b : Sto} (h1 : a.nxt = b.nxt) (h2 : ∀ l, a.cs l = b.cs l) : a = b := by
  cases a; cases b
  simp only at h1 h2
  subst h1
  rename_i n c w u c' w' u'
  have e : c = c' := funext h2
  subst e
  rfl
def keepC (n : Nat) (c : Cell) : Option Cell := if c.lb n then some c else none
theorem keepC_pos {n : Nat} {c : Cell} (h : c.lb n = true) : keepC n c = some c := if_pos h
theorem keepC_some {n : Nat} {c d : Cell} (h : keepC n c = some d) : c.lb n = true ∧ d = c := by
  unfold keepC at h
  split at h
  · rename_i q; cases h; exact ⟨q, rfl⟩
  · cases h

def Sto.set (st : Sto) (l : Nat) (c : Cell) : Sto where
  nxt := st.nxt
  cs := fun j => if j = l then (st.cs l).bind (fun _ => keepC st.nxt c) else st.cs j
  wf := fun j h => by
    by_cases e : j = l
    · subst e; rw [if_pos rfl, st.wf j h]; rfl
    · rw [if_neg e]; exact st.wf j h
  wc := fun j d h => by
    by_cases e : j = l
    · rw [if_pos e] at h
      cases q : st.cs l with
      | none => rw [q] at h; cases h
      | some c0 => rw [q] at h; obtain ⟨h1, rfl⟩ := keepC_some h; exact h1
    · rw [if_neg e] at h; exact st.wc j d h
def Sto.alloc (st : Sto) (c : Cell) : Sto where
  nxt := st.nxt + 1
  cs := fun j => if j = st.nxt then keepC st.nxt c else st.cs j
  wf := fun j h => by
    have e : j ≠ st.nxt := by omega
    rw [if_neg e]; exact st.wf j (by omega)
  wc := fun j d h => by
    by_cases e : j = st.nxt
    · rw [if_pos e] at h
      obtain ⟨h1, rfl⟩ := keepC_some h
      exact Cell.lb_mono (Nat.le_succ _) h1
    · rw [if_neg e] at h; exact Cell.lb_mono (Nat.le_succ _) (st.wc j d h)
def Sto.restr (b : Nat) (st : Sto) : Sto where
  nxt := b
  cs := fun j => if j < b then (st.cs j).bind (keepC b) else none
  wf := fun j h => if_neg (by omega)
  wc := fun j d h => by
    by_cases e : j < b
    · rw [if_pos e] at h
      cases q : st.cs j with
      | none => rw [q] at h; cases h
      | some c0 => rw [q] at h; obtain ⟨h1, rfl⟩ := keepC_some (show keepC b c0 = some d from h); exact h1
    · rw [if_neg e] at h; cases h
def Sto.kill (l : Nat) (st : Sto) : Sto where
  nxt := st.nxt
  cs := fun j => if j = l then none else st.cs j
  wf := fun j h => by
    by_cases e : j = l
    · rw [if_pos e]
    · rw [if_neg e]; exact st.wf j h
  wc := fun j d h => by
    by_cases e : j = l
    · rw [if_pos e] at h; cases h
    · rw [if_neg e] at h; exact st.wc j d h
theorem Sto.kill_get {st : Sto} {l : Nat} : (st.kill l).cs l = none := if_pos rfl
theorem Sto.kill_ne {st : Sto} {l j : Nat} (h : j ≠ l) : (st.kill l).cs j = st.cs j := if_neg h
theorem Sto.set_get {st : Sto} {l : Nat} {c c0 : Cell} (h : st.cs l = some c0) (hc : c.lb st.nxt = true) : (st.set l c).cs l = some c := by
  show (if l = l then (st.cs l).bind (fun _ => keepC st.nxt c) else st.cs l) = some c
  rw [if_pos rfl, h]
  exact keepC_pos hc
theorem Sto.set_ne {st : Sto} {l j : Nat} {c : Cell} (h : j ≠ l) : (st.set l c).cs j = st.cs j := if_neg h
theorem Sto.alloc_get {st : Sto} {c : Cell} (hc : c.lb st.nxt = true) : (st.alloc c).cs st.nxt = some c := by
  show (if st.nxt = st.nxt then keepC st.nxt c else st.cs st.nxt) = some c
  rw [if_pos rfl]
  exact keepC_pos hc
theorem Sto.alloc_ne {st : Sto} {c : Cell} {j : Nat} (h : j ≠ st.nxt) : (st.alloc c).cs j = st.cs j := if_neg h
theorem Sto.lt_of {st : Sto} {l : Nat} {c : Cell} (h : st.cs l = some c) : l < st.nxt := by
  apply Nat.lt_of_not_le
  intro q
  rw [st.wf l q] at h
  cases h
theorem Sto.restr_get {st : Sto} {b l : Nat} {c : Cell} (h : (st.restr b).cs l = some c) : st.cs l = some c ∧ l < b ∧ c.lb b = true := by
  have h : (if l < b then (st.cs l).bind (keepC b) else none) = some c := h
  split at h
  · rename_i q
    cases e : st.cs l with
    | none => rw [e] at h; cases h
    | some c0 =>
      rw [e] at h
      obtain ⟨h1, rfl⟩ := keepC_some (show keepC b c0 = some c from h)
      exact ⟨rfl, q, h1⟩
  · cases h
theorem Sto.restr_at {st : Sto} {b l : Nat} {c : Cell} (h : st.cs l = some c) (q : l < b) (hc : c.lb b = true) : (st.restr b).cs l = some c := by
  show (if l < b then (st.cs l).bind (keepC b) else none) = some c
  rw [if_pos q, h]
  exact keepC_pos hc
theorem Sto.restr_self (st : Sto) : st.restr st.nxt = st := Sto.ext' rfl fun l => by
  show (if l < st.nxt then (st.cs l).bind (keepC st.nxt) else none) = st.cs l
  by_cases h : l < st.nxt
  · rw [if_pos h]
    cases e : st.cs l with
    | none => rfl
    | some c => exact keepC_pos (st.wc l c e)
  · rw [if_neg h, st.wf l (by omega)]
theorem Sto.restr_alloc {st : Sto} {c : Cell} {b : Nat} (h : b ≤ st.nxt) : (st.alloc c).restr b = st.restr b := Sto.ext' rfl fun l => by
  show (if l < b then ((st.alloc c).cs l).bind (keepC b) else none) = if l < b then (st.cs l).bind (keepC b) else none
  by_cases q : l < b
  · rw [Sto.alloc_ne (by omega)]
  · rw [if_neg q, if_neg q]
theorem Sto.restr_set_ge {st : Sto} {c : Cell} {b l : Nat} (h : b ≤ l) : (st.set l c).restr b = st.restr b := Sto.ext' rfl fun j => by
  show (if j < b then ((st.set l c).cs j).bind (keepC b) else none) = if j < b then (st.cs j).bind (keepC b) else none
  by_cases q : j < b
  · rw [Sto.set_ne (by omega)]
  · rw [if_neg q, if_neg q]
theorem Sto.restr_kill_ge {st : Sto} {b l : Nat} (h : b ≤ l) : (st.kill l).restr b = st.restr b := Sto.ext' rfl fun j => by
  show (if j < b then ((st.kill l).cs j).bind (keepC b) else none) = if j < b then (st.cs j).bind (keepC b) else none
  by_cases q : j < b
  · rw [Sto.kill_ne (by omega)]
  · rw [if_neg q, if_neg q]
theorem Sto.restr_set_lt {st : Sto} {c c0 : Cell} {b l : Nat} (h : l < b) (hb : b ≤ st.nxt) (h0 : st.cs l = some c0) (h0b : c0.lb b = true) (hc : c.lb b = true) : (st.set l c).restr b = (st.restr b).set l c := Sto.ext' rfl fun j => by
  by_cases e : j = l
  · subst e
    rw [Sto.restr_at (Sto.set_get h0 (Cell.lb_mono hb hc)) h hc, Sto.set_get (Sto.restr_at h0 h h0b) hc]
  · rw [Sto.set_ne e]
    show (if j < b then ((st.set l c).cs j).bind (keepC b) else none) = if j < b then (st.cs j).bind (keepC b) else none
    rw [Sto.set_ne e]
theorem Sto.set_set {st : Sto} {l : Nat} {c c' : Cell} (hc : c.lb st.nxt = true) : (st.set l c).set l c' = st.set l c' := Sto.ext' rfl fun j => by
  by_cases e : j = l
  · subst e
    cases q : st.cs j with
    | none =>
      have h : ∀ d : Cell, (st.set j d).cs j = none := fun d => by
        show (if j = j then (st.cs j).bind (fun _ => keepC st.nxt d) else st.cs j) = none
        rw [if_pos rfl, q]; rfl
      rw [h]
      show (if j = j then ((st.set j c).cs j).bind (fun _ => keepC st.nxt c') else (st.set j c).cs j) = none
      rw [if_pos rfl, h]; rfl
    | some c0 =>
      show (if j = j then ((st.set j c).cs j).bind (fun _ => keepC st.nxt c') else (st.set j c).cs j) = (if j = j then (st.cs j).bind (fun _ => keepC st.nxt c') else st.cs j)
      rw [if_pos rfl, if_pos rfl, Sto.set_get q hc, q]; rfl
  · rw [Sto.set_ne e, Sto.set_ne e, Sto.set_ne e]
theorem Sto.set_comm {st : Sto} {l k : Nat} {c d : Cell} (h : l ≠ k) : (st.set l c).set k d = (st.set k d).set l c := Sto.ext' rfl fun j => by
  have at' : ∀ (s : Sto) (x : Nat) (y : Cell), (s.set x y).cs x = (s.cs x).bind (fun _ => keepC s.nxt y) := fun s x y => if_pos rfl
  by_cases e : j = k
  · subst e
    rw [at', Sto.set_ne (Ne.symm h), Sto.set_ne (Ne.symm h), at']; rfl
  · rw [Sto.set_ne e]
    by_cases e2 : j = l
    · subst e2
      rw [at', at', Sto.set_ne h]; rfl
    · rw [Sto.set_ne e2, Sto.set_ne e2, Sto.set_ne e]
theorem Sto.set_self {st : Sto} {l : Nat} {c : Cell} (h : st.cs l = some c) : st.set l c = st := Sto.ext' rfl fun j => by
  by_cases e : j = l
  · subst e; rw [Sto.set_get h (st.wc j c h), h]
  · rw [Sto.set_ne e]
theorem Sto.set_nxt {st : Sto} {l : Nat} {c : Cell} : (st.set l c).nxt = st.nxt := rfl
theorem Sto.alloc_nxt {st : Sto} {c : Cell} : (st.alloc c).nxt = st.nxt + 1 := rfl
theorem Sto.restr_nxt {st : Sto} {b : Nat} : (st.restr b).nxt = b := rfl
theorem Sto.alloc_set {st : Sto} {c d : Cell} (hc : c.lb st.nxt = true) (hd : d.lb st.nxt = true) : (st.alloc c).set st.nxt d = st.alloc d := Sto.ext' rfl fun j => by
  by_cases e : j = st.nxt
  · subst e
    rw [Sto.set_get (Sto.alloc_get hc) (Cell.lb_mono (Nat.le_succ _) hd), Sto.alloc_get hd]
  · rw [Sto.set_ne e, Sto.alloc_ne e, Sto.alloc_ne e]

/-! ### what stands at the places is told -/
mutual
def PV.sub (f : Nat → Option PV) : PV → Option PV
  | .tup xs => (subs f xs).map .tup
  | .lst xs => (subs f xs).map .lst
  | .ro xs => (subs f xs).map .ro
  | .dct ks vs => match subs f ks, subs f vs with
    | some ks', some vs' => some (.dct ks' vs')
    | _, _ => none
  | .loc l => f l
  | .non => some .non
  | .bl x => some (.bl x)
  | .int x => some (.int x)
  | .str x => some (.str x)
def subs (f : Nat → Option PV) : List PV → Option (List PV)
  | [] => some []
  | x :: r => match x.sub f, subs f r with
    | some x', some r' => some (x' :: r')
    | _, _ => none
end
/-- a place from b on is told by what stands there, to a depth -/
def rsv (b : Nat) (cs : Nat → Option Cell) : Nat → Nat → Option PV
  | 0, l => if l < b then some (.loc l) else none
  | n + 1, l => if l < b then some (.loc l) else match cs l with
    | some c => c.val.sub (rsv b cs n)
    | none => none
theorem rsv_lt {b : Nat} {cs : Nat → Option Cell} {n l : Nat} (h : l < b) : rsv b cs n l = some (.loc l) := by
  cases n <;> exact if_pos h
theorem rsv_ge {b : Nat} {cs : Nat → Option Cell} {n l : Nat} {c : Cell} (h : b ≤ l) (hc : cs l = some c) : rsv b cs (n + 1) l = c.val.sub (rsv b cs n) := by
  show (if l < b then some (.loc l) else match cs l with | some c => c.val.sub (rsv b cs n) | none => none) = _
  rw [if_neg (by omega), hc]
mutual
theorem PV.sub_lb {b : Nat} {f : Nat → Option PV} (hf : ∀ l, l < b → f l = some (.loc l)) : ∀ {v : PV}, v.lb b = true → v.sub f = some v
  | .tup xs, h => by rw [PV.sub, subs_lb hf (by rw [PV.lb] at h; exact h)]; rfl
  | .lst xs, h => by rw [PV.sub, subs_lb hf (by rw [PV.lb] at h; exact h)]; rfl
  | .ro xs, h => by rw [PV.sub, subs_lb hf (by rw [PV.lb] at h; exact h)]; rfl
  | .dct ks vs, h => by
    rw [PV.lb, Bool.and_eq_true] at h
    rw [PV.sub, subs_lb hf h.1, subs_lb hf h.2]
  | .loc l, h => by rw [PV.lb, decide_eq_true_eq] at h; rw [PV.sub, hf l h]
  | .non, _ => by rw [PV.sub]
  | .bl _, _ => by rw [PV.sub]
  | .int _, _ => by rw [PV.sub]
  | .str _, _ => by rw [PV.sub]
theorem subs_lb {b : Nat} {f : Nat → Option PV} (hf : ∀ l, l < b → f l = some (.loc l)) : ∀ {xs : List PV}, lbs b xs = true → subs f xs = some xs
  | [], _ => by rw [subs]
  | x :: r, h => by
    rw [lbs, Bool.and_eq_true] at h
    rw [subs, PV.sub_lb hf h.1, subs_lb hf h.2]
end
def PV.res (b : Nat) (cs : Nat → Option Cell) (v : PV) : Option PV := v.sub (rsv b cs 8)
theorem PV.res_lb {b : Nat} {cs : Nat → Option Cell} {v : PV} (h : v.lb b = true) : v.res b cs = some v := PV.sub_lb (fun _ q => rsv_lt q) h
theorem PV.res_loc {b l : Nat} {cs : Nat → Option Cell} {c : Cell} (h : b ≤ l) (hc : cs l = some c) (hb : c.lb b = true) : (PV.loc l).res b cs = some c.val := by
  unfold PV.res
  rw [PV.sub, rsv_ge h hc]
  exact PV.sub_lb (fun _ q => rsv_lt q) (by rw [Cell.lb_val]; exact hb)

/-! ### what pieces compute -/
abbrev Env := List (Option PV)
abbrev M (α : Type) := Sto → Option (α × Sto)
abbrev DE := Env → M PV
abbrev DT := Env → M Bool
abbrev DA := Env → M (List PV)
abbrev FSem := List PV → M PV
inductive Fl where
  | nx (e : Env) | rt (v : PV) | bk (e : Env) | ct (e : Env)
abbrev DS := Env → M Fl
/-- what a for walks: its items, and the place that must stand as it is -/
structure Its where
  items : List PV
  src : Option (Nat × Cell)
abbrev DI := Env → M Its

def mb {α β : Type} (m : Option (α × Sto)) (f : α → Sto → Option (β × Sto)) : Option (β × Sto) := match m with
  | some (a, st) => f a st
  | none => none
theorem mb_some {α β : Type} {a : α} {st : Sto} {f : α → Sto → Option (β × Sto)} : mb (some (a, st)) f = f a st := rfl
theorem mb_eq {α β : Type} {m : Option (α × Sto)} {f : α → Sto → Option (β × Sto)} {b : β} {st : Sto} (h : mb m f = some (b, st)) : ∃ a st1, m = some (a, st1) ∧ f a st1 = some (b, st) := by
  cases m with
  | none => cases h
  | some p => exact ⟨p.1, p.2, rfl, h⟩

def dVar (i : Nat) : DE := fun env st => match env[i]? with
  | some (some v) => some (v, st)
  | _ => none
def dCst (v : PV) : DE := fun _ st => some (v, st)
/-- a list or a dict that nobody changes any more -/
def frzL (v : PV) (st : Sto) : Option (PV × Sto) := match v with
  | .loc l => match st.cs l with
    | some c => some (c.val, st.kill l)
    | none => none
  | _ => none
def dFrz (i : Nat) : DE := fun env st => mb (dVar i env st) frzL
def dBin (f : PV → PV → M PV) (a b : DE) : DE := fun env st => mb (a env st) fun x st1 => mb (b env st1) fun y st2 => f x y st2
def dUn (f : PV → M PV) (a : DE) : DE := fun env st => mb (a env st) fun x st1 => f x st1
def aNil : DA := fun _ st => some ([], st)
def aCons (a : DE) (r : DA) : DA := fun env st => mb (a env st) fun x st1 => mb (r env st1) fun xs st2 => some (x :: xs, st2)
/-- a call of what is known by values -/
def dApp (f : FSem) (a : DA) : DE := fun env st => mb (a env st) fun xs st1 => f xs st1

def seqOf (st : Sto) : PV → Option (List PV)
  | .tup xs => some xs
  | .lst xs => some xs
  | .ro xs => some xs
  | .loc l => match st.cs l with
    | some (.lst xs) => some xs
    | _ => none
  | _ => none
/-- lists alone -/
def lstOf (st : Sto) : PV → Option (List PV)
  | .lst xs => some xs
  | .loc l => match st.cs l with
    | some (.lst xs) => some xs
    | _ => none
  | _ => none
/-! dicts: keys that are tuples of ints and None, or ints and texts -/
mutual
def NK : PV → Option NestedKey
  | .int i => some (.num i)
  | .non => some .none
  | .str x => some (.text x)
  | .tup xs => (NKs xs).map .tup
  | .bl _ => none
  | .lst _ => none
  | .ro _ => none
  | .dct _ _ => none
  | .loc _ => none
def NKs : List PV → Option (List NestedKey)
  | [] => some []
  | x :: r => match NK x, NKs r with
    | some k, some ks => some (k :: ks)
    | _, _ => none
end
mutual
def noText : NestedKey → Bool
  | .none => true
  | .num _ => true
  | .text _ => false
  | .tup ks => noTexts ks
def noTexts : List NestedKey → Bool
  | [] => true
  | k :: r => noText k && noTexts r
end
/-- a tuple that may be a key -/
def isTK : PV → Bool
  | .tup xs => match NK (.tup xs) with
    | some k => noText k && decide (k.depth ≤ 8)
    | none => false
  | _ => false
/-- an int or a text -/
def isFK : PV → Bool
  | .int _ => true
  | .str _ => true
  | _ => false
def keyEq (a b : PV) : Bool := match NK a, NK b with
  | some x, some y => decide (x = y)
  | _, _ => false
def dlook : List PV → List PV → PV → Option PV
  | k' :: ks, v :: vs, k => if keyEq k' k then some v else dlook ks vs k
  | _, _, _ => none
def dput : List PV → List PV → PV → PV → List PV × List PV
  | k' :: ks, v' :: vs, k, v => if keyEq k' k then (k' :: ks, v :: vs) else (k' :: (dput ks vs k v).1, v' :: (dput ks vs k v).2)
  | _, _, k, v => ([k], [v])
def goodK (ks : List PV) (k : PV) : Bool := ks.all isTK && isTK k
def dctOf (st : Sto) : PV → Option (List PV × List PV)
  | .dct ks vs => some (ks, vs)
  | .loc l => match st.cs l with
    | some (.dct ks vs) => some (ks, vs)
    | _ => none
  | _ => none
/-- a new dict -/
def mkD (m : Bool) (ks vs : List PV) : M PV := fun st =>
  if m then (if lbs st.nxt ks && lbs st.nxt vs then some (.loc st.nxt, st.alloc (.dct ks vs)) else none)
  else some (.dct ks vs, st)
def dDct0 (m : Bool) : DE := fun _ st => mkD m [] [] st
/-- a new list: m if it may change later -/
def mkL (m : Bool) (xs : List PV) : M PV := fun st =>
  if xs.length ≤ sizeLine then
    if m then (if lbs st.nxt xs then some (.loc st.nxt, st.alloc (.lst xs)) else none)
    else some (.lst xs, st)
  else none
def mkT (xs : List PV) : M PV := fun st => if xs.length ≤ sizeLine then some (.tup xs, st) else none
def dTup (a : DA) : DE := dApp mkT a
def dLst (m : Bool) (a : DA) : DE := dApp (mkL m) a

/-! operators -/
def opAdd (m : Bool) : PV → PV → M PV
  | .int a, .int b, st => some (.int (a + b), st)
  | .str a, .str b, st => if a.length + b.length ≤ sizeLine then some (.str (a ++ b), st) else none
  | .tup a, .tup b, st => if a.length + b.length ≤ sizeLine then some (.tup (a ++ b), st) else none
  | x, y, st => match lstOf st x, lstOf st y with
    | some a, some b => mkL m (a ++ b) st
    | _, _ => none
def opSub : PV → PV → M PV
  | .int a, .int b, st => some (.int (a - b), st)
  | _, _, _ => none
/-! bounds, opened by their lemmas alone -/
@[irreducible] def okMul (a b : Int) : Bool := decide ((-(2 ^ 64) < a ∧ a < 2 ^ 64) ∨ (-(2 ^ 64) < b ∧ b < 2 ^ 64))
theorem okMul_iff {a b : Int} : okMul a b = true ↔ ((-(2 ^ 64) < a ∧ a < 2 ^ 64) ∨ (-(2 ^ 64) < b ∧ b < 2 ^ 64)) := by unfold okMul; exact decide_eq_true_iff
@[irreducible] def okMod (b : Int) : Bool := decide (0 < b)
theorem okMod_iff {b : Int} : okMod b = true ↔ 0 < b := by unfold okMod; exact decide_eq_true_iff
@[irreducible] def okDiv (b : Int) : Bool := decide (0 < b ∧ b < 1073741824)
theorem okDiv_iff {b : Int} : okDiv b = true ↔ (0 < b ∧ b < 1073741824) := by unfold okDiv; exact decide_eq_true_iff
@[irreducible] def okPow (a b : Int) : Bool := decide (0 ≤ b ∧ b ≤ 1000000 ∧ a.natAbs < 2 ^ 64)
theorem okPow_iff {a b : Int} : okPow a b = true ↔ (0 ≤ b ∧ b ≤ 1000000 ∧ a.natAbs < 2 ^ 64) := by unfold okPow; exact decide_eq_true_iff
@[irreducible] def okRng (a : Int) : Bool := decide (-(2 ^ 62) ≤ a ∧ a < 2 ^ 62)
theorem okRng_iff {a : Int} : okRng a = true ↔ (-(2 ^ 62) ≤ a ∧ a < 2 ^ 62) := by unfold okRng; exact decide_eq_true_iff
@[irreducible] def okLen (n : Nat) : Bool := decide (n ≤ sizeLine)
theorem okLen_iff {n : Nat} : okLen n = true ↔ n ≤ sizeLine := by unfold okLen; exact decide_eq_true_iff
@[irreducible] def okRep (n : Nat) (k : Int) : Bool := decide (0 < n ∧ n ≤ 1000 ∧ 0 ≤ k ∧ k ≤ 1000)
theorem okRep_iff {n : Nat} {k : Int} : okRep n k = true ↔ (0 < n ∧ n ≤ 1000 ∧ 0 ≤ k ∧ k ≤ 1000) := by unfold okRep; exact decide_eq_true_iff
def opMul : PV → PV → M PV
  | .int a, .int b, st => if okMul a b then some (.int (a * b), st) else none
  | .tup xs, .int k, st => if okRep xs.length k then some (.tup (List.replicate k.toNat xs).flatten, st) else none
  | _, _, _ => none
def opMod : PV → PV → M PV
  | .int a, .int b, st => if okMod b then some (.int (a % b), st) else none
  | _, _, _ => none
def opDiv : PV → PV → M PV
  | .int a, .int b, st => if okDiv b then some (.int (a / b), st) else none
  | _, _, _ => none
def opPow : PV → PV → M PV
  | .int a, .int b, st => if okPow a b then some (.int (a ^ b.toNat), st) else none
  | _, _, _ => none
def opNeg : PV → M PV
  | .int a, st => some (.int (-a), st)
  | _, _ => none
def opNot : PV → M PV
  | .bl a, st => some (.bl (!a), st)
  | _, _ => none

/-! comparisons -/
def cmpI (p : Int → Int → Bool) : PV → PV → M PV
  | .int a, .int b, st => some (.bl (p a b), st)
  | _, _, _ => none
mutual
/-- as the library's data -/
def PV.toD (cs : Nat → Option Cell) : PV → Option PyData
  | .non => some .none
  | .bl b => some (.bool b)
  | .int i => some (.int i)
  | .str x => some (.str x)
  | .tup xs => (toDs cs xs).map .tuple
  | .lst xs => (toDs cs xs).map .list
  | .ro xs => (toDs cs xs).map .list
  | .dct _ _ => none
  | .loc _ => none
def toDs (cs : Nat → Option Cell) : List PV → Option (List PyData)
  | [] => some []
  | x :: r => match x.toD cs, toDs cs r with
    | some d, some ds => some (d :: ds)
    | _, _ => none
end
/-- a place is told by its items -/
def derf (st : Sto) : PV → PV
  | .loc l => match st.cs l with
    | some c => c.val
    | none => .loc l
  | v => v
def cmpEq (neg : Bool) : PV → PV → M PV := fun x y st =>
  match (derf st x).toD st.cs, (derf st y).toD st.cs with
  | some d, some e => if SeqAt.shaped d && SeqAt.shaped e then some (.bl (PyData.eqv d e != neg), st) else none
  | _, _ => none
def flatP : PV → Bool
  | .non => true
  | .bl _ => true
  | .int _ => true
  | .str _ => true
  | _ => false
def eqP : PV → PV → Bool
  | .non, .non => true
  | .bl a, .bl b => a == b
  | .bl a, .int b => (if a then 1 else 0) == b
  | .int a, .bl b => a == (if b then 1 else 0)
  | .int a, .int b => a == b
  | .str a, .str b => a == b
  | _, _ => false
def cmpInS (neg : Bool) : PV → PV → M PV := fun x y st =>
  match seqOf st y with
  | some ys => if flatP x && ys.all flatP then some (.bl (ys.any (fun z => eqP z x) != neg), st) else
    match lstOf st y with
    | some ys => match (derf st x).toD st.cs, toDs st.cs ys with
      | some d, some ds => if SeqAt.shaped d && SeqAt.shaped (.list ds) then some (.bl ((ds.any fun z => PyData.eqv z d) != neg), st) else none
      | _, _ => none
    | none => none
  | none => none
def cmpIn (neg : Bool) : PV → PV → M PV := fun x y st => match dctOf st y with
  | some (ks, vs) => if goodK ks x then some (.bl ((dlook ks vs x).isSome != neg), st) else none
  | none => cmpInS neg x y st
def isNonP : PV → Bool
  | .non => true
  | _ => false
def cmpIsN (neg : Bool) : PV → M PV := fun x st => some (.bl (isNonP x != neg), st)

/-! subscripts -/
def opIx : PV → PV → M PV := fun x y st => match dctOf st x with
  | some (ks, vs) => if goodK ks y then (dlook ks vs y).map fun v => (v, st) else none
  | none => match y with
    | .int i => match seqOf st x with
      | some xs => (atI xs i).map fun v => (v, st)
      | none => none
    | _ => none
def intO : PV → Option (Option Int)
  | .int i => some (some i)
  | _ => none
def cutP (xs : List PV) (lo hi : Option Int) : List PV := (xs.drop (HT.sIx xs.length 0 lo)).take (HT.sIx xs.length xs.length hi - HT.sIx xs.length 0 lo)
abbrev DO := Env → M (Option Int)
def oNone : DO := fun _ st => some (none, st)
def oSome (a : DE) : DO := fun env st => mb (a env st) fun x st1 => match x with
  | .int i => some (some i, st1)
  | _ => none
def dSl (m : Bool) (a : DE) (lo hi : DO) : DE := fun env st => mb (a env st) fun x st1 => mb (lo env st1) fun l st2 => mb (hi env st2) fun h st3 => match x with
  | .tup xs => some (.tup (cutP xs l h), st3)
  | x => match lstOf st3 x with
    | some xs => mkL m (cutP xs l h) st3
    | none => none

/-! calls of built-ins -/
def bLen : FSem
  | [.str x], st => if x.length ≤ sizeLine then some (.int x.length, st) else none
  | [x], st => match seqOf st x with
    | some xs => some (.int xs.length, st)
    | none => match dctOf st x with
      | some (ks, _) => some (.int ks.length, st)
      | none => none
  | _, _ => none
def bAbs : FSem
  | [.int i], st => some (.int (if i < 0 then -i else i), st)
  | _, _ => none
def bInt : FSem
  | [.int i], st => some (.int i, st)
  | [.bl k], st => some (.int (if k then 1 else 0), st)
  | _, _ => none
def maxL : List Int → Int
  | [] => 0
  | [x] => x
  | x :: r => max x (maxL r)
def minL : List Int → Int
  | [] => 0
  | [x] => x
  | x :: r => min x (minL r)
def intsOf : List PV → Option (List Int)
  | [] => some []
  | .int i :: r => (intsOf r).map (i :: ·)
  | _ => none
def bMax : FSem
  | [.int i, .int j], st => some (.int (if j > i then j else i), st)
  | [.int i, .int j, .int k], st => some (.int (if j > i then (if k > j then k else j) else (if k > i then k else i)), st)
  | [x], st => match lstOf st x with
    | some xs => match intsOf xs with
      | some (i :: r) => some (.int (maxL (i :: r)), st)
      | _ => none
    | none => none
  | _, _ => none
def bMin : FSem
  | [.int i, .int j], st => some (.int (if j < i then j else i), st)
  | [.int i, .int j, .int k], st => some (.int (if j < i then (if k < j then k else j) else (if k < i then k else i)), st)
  | [x], st => match lstOf st x with
    | some xs => match intsOf xs with
      | some (i :: r) => some (.int (minL (i :: r)), st)
      | _ => none
    | none => none
  | _, _ => none
def bTuple : FSem
  | [.tup xs], st => some (.tup xs, st)
  | [x], st => match lstOf st x with
    | some xs => mkT xs st
    | none => none
  | _, _ => none
def bList (m : Bool) : FSem
  | [x], st => match seqOf st x with
    | some xs => mkL m xs st
    | none => none
  | _, _ => none
def sortI (l : List Int) : List Int := l.mergeSort (fun a b => decide (a ≤ b))
/-- x < y: ints, or data that are alike -/
def cmpLt : PV → PV → M PV
  | .int a, .int b, st => some (.bl (decide (a < b)), st)
  | .tup xs, .tup ys, st => match (PV.tup xs).toD st.cs, (PV.tup ys).toD st.cs with
    | some d, some e => if PySem.W.alike d e && decide (min d.depth e.depth ≤ 60) then some (.bl (PySem.W.dataLt d e), st) else none
    | _, _ => none
  | _, _, _ => none
/-- tuples of ints: their order, without the doubles -/
def lexLe (a b : List Int) : Bool := !HT.lexLt b a
def sortT (ks : List (List Int)) : List (List Int) := ks.mergeSort lexLe
def uniqT : List (List Int) → List (List Int)
  | [] => []
  | k :: r => if k ∈ r then uniqT r else k :: uniqT r
def tupsOf : List PV → Option (List (List Int))
  | [] => some []
  | .tup xs :: r => match intsOf xs, tupsOf r with
    | some ns, some ks => some (ns :: ks)
    | _, _ => none
  | _ => none
def tupP (k : List Int) : PV := .tup (k.map .int)
@[irreducible] def bTup : Int := 1000000000000
open Classical in
@[irreducible] noncomputable def okTs (ks : List (List Int)) : Bool := decide (ks.length < 64 ∧ ∃ d, 1 ≤ d ∧ ∀ k ∈ ks, k.length = d ∧ TS.Bd bTup k)
open Classical in
theorem okTs_iff {ks : List (List Int)} : okTs ks = true ↔ (ks.length < 64 ∧ ∃ d, 1 ≤ d ∧ ∀ k ∈ ks, k.length = d ∧ TS.Bd bTup k) := by unfold okTs; exact decide_eq_true_iff
/-- the order of data that are alike -/
def leP (a b : PV) : Bool := match a.toD (fun _ => none), b.toD (fun _ => none) with
  | some x, some y => !PySem.W.dataLt y x
  | _, _ => true
open Classical in
@[irreducible] noncomputable def okSort (ds : List PyData) : Bool := decide (PySem.W.AllAlike ds ∧ PySem.W.Sortable ds ∧ ds.length ≤ sizeLine ∧ ∀ d ∈ ds, d.depth ≤ 30)
open Classical in
theorem okSort_iff {ds : List PyData} : okSort ds = true ↔ (PySem.W.AllAlike ds ∧ PySem.W.Sortable ds ∧ ds.length ≤ sizeLine ∧ ∀ d ∈ ds, d.depth ≤ 30) := by unfold okSort; exact decide_eq_true_iff
/-- what list(x), sorted(x) read -/
def colOf (st : Sto) (x : PV) : Option (List PV) := match lstOf st x with
  | some xs => some xs
  | none => match dctOf st x with
    | some (ks, _) => some ks
    | none => none
noncomputable def sortGo (m : Bool) (xs : List PV) : M PV := fun st => match toDs (fun _ => none) xs with
  | some ds => if okSort ds then mkL m (xs.mergeSort leP) st else none
  | none => none
noncomputable def bSorted (m : Bool) : FSem
  | [x], st => match lstOf st x with
    | some xs => sortGo m xs st
    | none => match dctOf st x with
      | some (ks, _) => sortGo m ks st
      | none => none
  | _, _ => none
def bSum : FSem
  | [x], st => match lstOf st x with
    | some xs => match intsOf xs with
      | some ns => some (.int ns.sum, st)
      | none => none
    | none => none
  | _, _ => none
/-- sorted(set(x)) -/
noncomputable def bSortedSet (m : Bool) : FSem
  | [x], st => match lstOf st x with
    | some xs => match tupsOf xs with
      | some ks => if okTs ks then mkL m ((sortT (uniqT ks)).map tupP) st else none
      | none => none
    | none => none
  | _, _ => none
inductive BTy where
  | int | bool | str | list | tuple | dict
  deriving DecidableEq
def BTy.name : BTy → Str
  | .int => "int" | .bool => "bool" | .str => "str" | .list => "list" | .tuple => "tuple" | .dict => "dict"
def BTy.nameS : BTy → String
  | .int => "int" | .bool => "bool" | .str => "str" | .list => "list" | .tuple => "tuple" | .dict => "dict"
def isTy (t : BTy) (st : Sto) : PV → Option Bool
  | .non => some false
  | .bl _ => some (t == .bool || t == .int)
  | .int _ => some (t == .int)
  | .str _ => some (t == .str)
  | .tup _ => some (t == .tuple)
  | .lst _ => some (t == .list)
  | .ro _ => none
  | .dct _ _ => some (t == .dict)
  | .loc l => match st.cs l with
    | some (.lst _) => some (t == .list)
    | some (.dct _ _) => some (t == .dict)
    | _ => none
def bIsi (t : BTy) : PV → M PV := fun x st => (isTy t st x).map fun b => (.bl b, st)

/-! methods of lists -/
def asL (x : PV) (st : Sto) : Option (Nat × Sto) := match x with
  | .loc l => match st.cs l with
    | some (.lst _) => some (l, st)
    | _ => none
  | _ => none
theorem asL_eq {x : PV} {st st' : Sto} {l : Nat} (h : asL x st = some (l, st')) : x = .loc l ∧ st = st' ∧ ∃ xs, st.cs l = some (.lst xs) := by
  unfold asL at h
  split at h
  · split at h
    · rename_i hl
      cases h
      exact ⟨rfl, rfl, _, hl⟩
    · cases h
  · cases h
def dMetL (f : Nat → FSem) (o : DE) (a : DA) : DE := fun env st => mb (o env st) fun x st1 => mb (asL x st1) fun l st2 => mb (a env st2) fun xs st3 => f l xs st3
def mAppend (l : Nat) : FSem
  | [y], st => match st.cs l with
    | some (.lst xs) => if xs.length < sizeLine && y.lb st.nxt then some (.non, st.set l (.lst (xs ++ [y]))) else none
    | _ => none
  | _, _ => none
def mPop (l : Nat) : FSem
  | [], st => match st.cs l with
    | some (.lst xs) => match xs[xs.length - 1]? with
      | some y => some (y, st.set l (.lst xs.dropLast))
      | none => none
    | _ => none
  | _, _ => none
def mPopAt (l : Nat) : FSem
  | [.int i], st => match st.cs l with
    | some (.lst xs) => match seqIndex? i xs.length with
      | some k => match xs[k]? with
        | some y => if okRng i then some (y, st.set l (.lst (xs.eraseIdx k))) else none
        | none => none
      | none => none
    | _ => none
  | _, _ => none
def mInsert (l : Nat) : FSem
  | [.int i, y], st => match st.cs l with
    | some (.lst xs) => if xs.length < sizeLine && y.lb st.nxt && okRng i && decide (0 ≤ i) then some (.non, st.set l (.lst (xs.take i.toNat ++ [y] ++ xs.drop i.toNat))) else none
    | _ => none
  | _, _ => none
def mExtend (l : Nat) : FSem
  | [y], st => match st.cs l with
    | some (.lst xs) => match lstOf st y with
      | some zs => if decide (xs.length + zs.length ≤ sizeLine) && lbs st.nxt zs then some (.non, st.set l (.lst (xs ++ zs))) else none
      | none => none
    | _ => none
  | _, _ => none
def mReverse (l : Nat) : FSem
  | [], st => match st.cs l with
    | some (.lst xs) => some (.non, st.set l (.lst xs.reverse))
    | _ => none
  | _, _ => none

/-- d.get(k, v) -/
@[irreducible] def dGet2 (o k v : DE) : DE := fun env st => mb (o env st) fun x st1 => match dctOf st1 x with
  | none => none
  | some _ => mb (k env st1) fun y st2 => mb (v env st2) fun z st3 => match dctOf st3 x with
    | some (ks, vs) => if goodK ks y then some ((dlook ks vs y).getD z, st3) else none
    | none => none
/-! calls of the text's own defs -/
/-- behind a def: what it made and does not hand back is dropped -/
def fin (b : Nat) (v : PV) (st : Sto) : Option (PV × Sto) := match v with
  | .loc l => if l < b then some (.loc l, st.restr b) else match st.cs l with
    | some c => if c.lb b then some (.loc b, (st.restr b).alloc c) else none
    | none => none
  | v => (v.res b st.cs).map fun v' => (v', st.restr b)
def settle (b : Nat) (v : PV) (st : Sto) : Option (PV × Sto) := (v.res b st.cs).map fun v' => (v', st.restr b)
def dCall (f : FSem) (adopt : Bool) (a : DA) : DE := fun env st => mb (a env st) fun xs st1 => mb (f xs st1) fun v st2 =>
  if adopt then some (v, st2) else settle st1.nxt v st2
/-- a def: its body over its slots -/
def runF (n : Nat) (np : Nat) (d : DS) : FSem := fun args st =>
  if args.length = np then
    match d (args.map some ++ List.replicate (n - args.length) none) st with
    | some (.rt v, st1) => fin st.nxt v st1
    | some (.nx _, st1) => fin st.nxt .non st1
    | _ => none
  else none

/-! tests -/
def asB (x : PV) (st : Sto) : Option (Bool × Sto) := match x with
  | .bl b => some (b, st)
  | _ => none
theorem asB_eq {x : PV} {st st' : Sto} {b : Bool} (h : asB x st = some (b, st')) : x = .bl b ∧ st = st' := by
  unfold asB at h
  split at h
  · cases h; exact ⟨rfl, rfl⟩
  · cases h
theorem asB_bl {b : Bool} {st : Sto} : asB (.bl b) st = some (b, st) := rfl
def tVal (a : DE) : DT := fun env st => mb (a env st) asB
def tAnd (a b : DT) : DT := fun env st => mb (a env st) fun x st1 => if x then b env st1 else some (false, st1)
def tOr (a b : DT) : DT := fun env st => mb (a env st) fun x st1 => if x then some (true, st1) else b env st1
def tNot (a : DT) : DT := fun env st => mb (a env st) fun x st1 => some (!x, st1)
def dAnd (a b : DE) : DE := fun env st => mb (a env st) fun x st1 => mb (asB x st1) fun k st2 => if k then b env st2 else some (.bl false, st2)
def dOr (a b : DE) : DE := fun env st => mb (a env st) fun x st1 => mb (asB x st1) fun k st2 => if k then some (.bl true, st2) else b env st2
def dIte (t : DT) (a b : DE) : DE := fun env st => mb (t env st) fun x st1 => if x then a env st1 else b env st1
def dChain (f g : PV → PV → M PV) (a b c : DE) : DE := fun env st => mb (a env st) fun x st1 => mb (b env st1) fun y st2 => mb (f x y st2) fun r st3 => mb (asB r st3) fun k st4 =>
  if k then mb (c env st4) fun z st5 => g y z st5 else some (.bl false, st4)

/-! what is walked -/
def itsOf (x : PV) (st : Sto) : Option (Its × Sto) := match x with
  | .lst xs => some (⟨xs, none⟩, st)
  | .tup xs => some (⟨xs, none⟩, st)
  | .loc l => match st.cs l with
    | some (.lst xs) => some (⟨xs, some (l, .lst xs)⟩, st)
    | _ => none
  | _ => none
def iSeq (a : DE) : DI := fun env st => mb (a env st) itsOf
/-- reversed(x), x a list that nobody changes -/
def itsRev (x : PV) (st : Sto) : Option (Its × Sto) := match x with
  | .lst xs => some (⟨xs.reverse, none⟩, st)
  | _ => none
def iRev (a : DE) : DI := fun env st => mb (a env st) itsRev
def rng (lo hi : Int) : List PV := (List.range (hi - lo).toNat).map fun (k : Nat) => PV.int (lo + (k : Int))
def asI (x : PV) (st : Sto) : Option (Int × Sto) := match x with
  | .int n => some (n, st)
  | _ => none
theorem asI_eq {x : PV} {st st' : Sto} {n : Int} (h : asI x st = some (n, st')) : x = .int n ∧ st = st' := by
  unfold asI at h
  split at h
  · cases h; exact ⟨rfl, rfl⟩
  · cases h
def iRng1 (a : DE) : DI := fun env st => mb (a env st) fun x st1 => mb (asI x st1) fun n st2 => if okRng n then some (⟨rng 0 n, none⟩, st2) else none
def iRng2 (a b : DE) : DI := fun env st => mb (a env st) fun x st1 => mb (b env st1) fun y st2 => mb (asI x st2) fun i st3 => mb (asI y st3) fun j st4 => if okRng i && okRng j then some (⟨rng i j, none⟩, st4) else none
def Its.ok (its : Its) (st : Sto) : Prop := match its.src with
  | none => True
  | some (l, c) => st.cs l = some c
theorem itsOf_lst {st : Sto} {v : PV} {xs : List PV} (h : lstOf st v = some xs) : ∃ src, itsOf v st = some (⟨xs, src⟩, st) ∧ ∀ s : Sto, (∀ l, v = .loc l → s.cs l = st.cs l) → (Its.mk xs src).ok s := by
  unfold lstOf at h
  split at h
  · cases h; exact ⟨none, rfl, fun _ _ => trivial⟩
  · rename_i l
    split at h
    · rename_i ys hl
      cases h
      refine ⟨some (l, .lst xs), ?_, fun s k => ?_⟩
      · show (match st.cs l with | some (.lst xs) => some (Its.mk xs (some (l, .lst xs)), st) | _ => none) = _
        rw [hl]
      · show s.cs l = _
        rw [k l rfl, hl]
    · cases h
  · cases h

/-! targets -/
abbrev DG := PV → Env → M Env
def gName (i : Nat) : DG := fun v env st => some (env.set i (some v), st)
def gList : List DG → List PV → Env → M Env
  | [], [], env, st => some (env, st)
  | g :: gs, v :: vs, env, st => mb (g v env st) fun e1 s1 => gList gs vs e1 s1
  | _, _, _, _ => none
def gTup (gs : List DG) : DG := fun v env st => match v with
  | .tup xs => gList gs xs env st
  | _ => none
def setL : PV → PV → PV → Sto → Option Sto
  | .loc l, y, v, st => match st.cs l with
    | some (.lst xs) => match y with
      | .int i => match ixN xs.length i with
        | some j => if v.lb st.nxt then some (st.set l (.lst (xs.set j v))) else none
        | none => none
      | _ => none
    | some (.dct ks vs) => if goodK ks y && v.lb st.nxt && decide (ks.length < sizeLine) then some (st.set l (.dct (dput ks vs y v).1 (dput ks vs y v).2)) else none
    | none => none
  | _, _, _, _ => none
/-- o[i] = v -/
def gSub (o i : DE) : DG := fun v env st => mb (o env st) fun x st1 => mb (i env st1) fun y st2 => (setL x y v st2).map fun s => (env, s)

/-! comprehensions -/
def wipeE (env : Env) : List Nat → Env
  | [] => env
  | v :: vs => (wipeE env vs).set v none
open Classical in
noncomputable def lcGo (its : Its) (g : DG) (t : DT) (e : DE) (env : Env) : List PV → Sto → Option (List PV × Sto)
  | [], st => if its.ok st then some ([], st) else none
  | x :: r, st => if its.ok st then
      mb (g x env st) fun env1 st1 => mb (t env1 st1) fun b st2 =>
        if b then mb (e env1 st2) fun y st3 => mb (lcGo its g t e env r st3) fun ys st4 => some (y :: ys, st4)
        else lcGo its g t e env r st2
    else none
noncomputable def dLc (m : Bool) (vs : List Nat) (i : DI) (g : DG) (t : DT) (e : DE) : DE := fun env st =>
  mb (i env st) fun its st1 => mb (lcGo its g t e (wipeE env vs) its.items st1) fun ys st2 => mkL m ys st2
def tYes : DT := fun _ st => some (true, st)

/-! statements -/
def sPass : DS := fun env st => some (.nx env, st)
def sBreak : DS := fun env st => some (.bk env, st)
def sCont : DS := fun env st => some (.ct env, st)
def sSeq (a b : DS) : DS := fun env st => mb (a env st) fun f st1 => match f with
  | .nx e => b e st1
  | f => some (f, st1)
def sAsg (a : DE) (g : DG) : DS := fun env st => mb (a env st) fun x st1 => mb (g x env st1) fun e st2 => some (.nx e, st2)
def sAug (f : PV → PV → M PV) (i : Nat) (a : DE) : DS := fun env st => match env[i]? with
  | some (some x) => mb (a env st) fun y st1 => mb (f x y st1) fun z st2 => some (.nx (env.set i (some z)), st2)
  | _ => none
def sExpr (a : DE) : DS := fun env st => mb (a env st) fun _ st1 => some (.nx env, st1)
def sRet (a : DE) : DS := fun env st => mb (a env st) fun x st1 => some (.rt x, st1)
def sRetN : DS := fun _ st => some (.rt .non, st)
def sIf (t : DT) (a b : DS) : DS := fun env st => mb (t env st) fun x st1 => if x then a env st1 else b env st1
open Classical in
noncomputable def forGo (its : Its) (g : DG) (d : DS) : List PV → Env → Sto → Option (Fl × Sto)
  | [], env, st => if its.ok st then some (.nx env, st) else none
  | x :: r, env, st => if its.ok st then
      mb (g x env st) fun env1 st1 => mb (d env1 st1) fun f st2 => match f with
        | .nx e => forGo its g d r e st2
        | .ct e => forGo its g d r e st2
        | .bk e => some (.nx e, st2)
        | .rt v => some (.rt v, st2)
    else none
noncomputable def sFor (i : DI) (g : DG) (d : DS) : DS := fun env st => mb (i env st) fun its st1 => forGo its g d its.items env st1
def whGo (t : DT) (d : DS) : Nat → Env → Sto → Option (Fl × Sto)
  | 0, _, _ => none
  | n + 1, env, st => mb (t env st) fun b st1 => if b then mb (d env st1) fun f st2 => match f with
        | .nx e => whGo t d n e st2
        | .ct e => whGo t d n e st2
        | .bk e => some (.nx e, st2)
        | .rt v => some (.rt v, st2)
      else some (.nx env, st1)
def sWhile (t : DT) (d : DS) : DS := fun env st => whGo t d 100000 env st
end DL

/-! DL1: how the values of DL0 lie in a heap; worlds and their steps. -/
namespace DL
open PySem PySem.Spec PyProof.Rows L2

/-- a dict's object, by itself -/
def dO (a : Addr) (ob : Obj) : HO := .ext fun h => h.get? a = some ob
/-- its entries -/
def EsR : List PV → List V → List V → List DictEntry → Prop
  | [], kws, vws, es => kws = [] ∧ vws = [] ∧ es = []
  | k :: ks, kws, vws, es => ∃ a as b bs e r, kws = a :: as ∧ vws = b :: bs ∧ es = e :: r ∧ (∃ nk, NK k = some nk ∧ isTK k = true ∧ ∀ w : World, e.hash = nk.hash w) ∧ RelV a e.key ∧ RelV b e.val ∧ EsR ks as bs r
def DObj (a : Addr) (ks : List PV) (kws vws : List V) (ob : Obj) : Prop :=
  ob.ExactDict ∧ (∃ es ep, ob.data = .dict es ep ∧ EsR ks kws vws es.toList) ∧ (a == sysModules) = false ∧ ks.length ≤ sizeLine ∧ (ks.map NK).Nodup
theorem isTK_nk {k : PV} (h : isTK k = true) : ∃ nk, NK k = some nk ∧ noText nk = true ∧ nk.depth ≤ 8 := by
  cases k with
  | tup xs =>
    have h : (match NK (.tup xs) with | some k => noText k && decide (k.depth ≤ 8) | none => false) = true := h
    cases e : NK (.tup xs) with
    | none => rw [e] at h; cases h
    | some nk =>
      rw [e] at h
      have h : (noText nk && decide (nk.depth ≤ 8)) = true := h
      rw [Bool.and_eq_true, decide_eq_true_iff] at h
      exact ⟨nk, rfl, h.1, h.2⟩
  | _ => cases h
mutual
theorem nk_lb : ∀ {x : PV} {k : NestedKey}, NK x = some k → x.lb 0 = true
  | .int _, _, _ => by rw [PV.lb]
  | .non, _, _ => by rw [PV.lb]
  | .str _, _, _ => by rw [PV.lb]
  | .tup xs, _, h => by
    rw [NK] at h
    cases e : NKs xs with
    | none => rw [e] at h; cases h
    | some l => rw [PV.lb]; exact nks_lb e
  | .bl _, _, h => by rw [NK] at h; cases h
  | .lst _, _, h => by rw [NK] at h; cases h
  | .ro _, _, h => by rw [NK] at h; cases h
  | .dct _ _, _, h => by rw [NK] at h; cases h
  | .loc _, _, h => by rw [NK] at h; cases h
theorem nks_lb : ∀ {xs : List PV} {ks : List NestedKey}, NKs xs = some ks → lbs 0 xs = true
  | [], _, _ => by rw [lbs]
  | x :: r, _, h => by
    rw [NKs] at h
    cases e : NK x with
    | none => rw [e] at h; cases h
    | some k =>
      cases e2 : NKs r with
      | none => rw [e, e2] at h; cases h
      | some l => rw [lbs, nk_lb e, nks_lb e2]; rfl
end
theorem EsR.lb : ∀ {ks : List PV} {kws vws : List V} {es : List DictEntry}, EsR ks kws vws es → lbs 0 ks = true
  | [], _, _, _, _ => by rw [lbs]
  | k :: ks, _, _, _, h => by
    obtain ⟨a, as, b, bs, e, r, _, _, _, ⟨nk, h1, _⟩, _, _, h⟩ := h
    rw [lbs, nk_lb h1, EsR.lb h]; rfl

mutual
def RelP (K : PySem.W.Frag) (F : Hp) (ρ : Nat → Addr) (n : Nat) : PV → V → Prop
  | .non, v => v = .non
  | .bl b, v => v = .bl b
  | .int i, v => v = .int i
  | .str x, v => v = .str x
  | .tup xs, v => ∃ a vs, v = .ref a ∧ SqT K F a vs ∧ RelPs K F ρ n xs vs
  | .lst xs, v => ∃ a vs, v = .ref a ∧ F a = some (.lst vs) ∧ RelPs K F ρ n xs vs
  | .ro xs, v => ∃ a vs, v = .ref a ∧ SqL K F a vs ∧ RelPs K F ρ n xs vs
  | .dct ks vs, v => ∃ a ob kws vws, v = .ref a ∧ F a = some (dO a ob) ∧ RelPs K F ρ n ks kws ∧ RelPs K F ρ n vs vws ∧ DObj a ks kws vws ob
  | .loc l, v => l < n ∧ v = .ref (ρ l)
def RelPs (K : PySem.W.Frag) (F : Hp) (ρ : Nat → Addr) (n : Nat) : List PV → List V → Prop
  | [], vs => vs = []
  | x :: r, vs => ∃ w ws, vs = w :: ws ∧ RelP K F ρ n x w ∧ RelPs K F ρ n r ws
end
abbrev Sub (F F' : Hp) : Prop := ∀ a o, F a = some o → F' a = some o
theorem Sub.rd {F F' : Hp} {a : Addr} {u : HO} (s : Sub F F') (h : Rd F a u) : Rd F' a u := by
  rcases h with h | ⟨o, h⟩
  · exact .inl (s _ _ h)
  · exact .inr ⟨o, s _ _ h⟩
theorem Sub.sqT {K : PySem.W.Frag} {F F' : Hp} {a : Addr} {vs : List V} (s : Sub F F') (h : SqT K F a vs) : SqT K F' a vs := by
  rcases h with h | h
  · exact .inl (s.rd h)
  · exact .inr h
theorem Sub.sqL {K : PySem.W.Frag} {F F' : Hp} {a : Addr} {vs : List V} (s : Sub F F') (h : SqL K F a vs) : SqL K F' a vs := by
  rcases h with h | h
  · exact .inl (s.rd h)
  · exact .inr h
section
variable {K : PySem.W.Frag} {F F' : Hp} {ρ ρ' : Nat → Addr} {n n' m : Nat}
mutual
theorem RelP.mono (s : Sub F F') (hr : ∀ l, l < n → ρ' l = ρ l) (hn : n ≤ n') : ∀ {x : PV} {v : V}, RelP K F ρ n x v → RelP K F' ρ' n' x v
  | .non, _, h => by rw [RelP] at h ⊢; exact h
  | .bl _, _, h => by rw [RelP] at h ⊢; exact h
  | .int _, _, h => by rw [RelP] at h ⊢; exact h
  | .str _, _, h => by rw [RelP] at h ⊢; exact h
  | .tup xs, _, h => by
    rw [RelP] at h ⊢
    obtain ⟨a, vs, e, q, r⟩ := h
    exact ⟨a, vs, e, s.sqT q, RelPs.mono s hr hn r⟩
  | .lst xs, _, h => by
    rw [RelP] at h ⊢
    obtain ⟨a, vs, e, q, r⟩ := h
    exact ⟨a, vs, e, s _ _ q, RelPs.mono s hr hn r⟩
  | .ro xs, _, h => by
    rw [RelP] at h ⊢
    obtain ⟨a, vs, e, q, r⟩ := h
    exact ⟨a, vs, e, s.sqL q, RelPs.mono s hr hn r⟩
  | .dct ks vs, _, h => by
    rw [RelP] at h ⊢
    obtain ⟨a, ob, kws, vws, e, q, r1, r2, d⟩ := h
    exact ⟨a, ob, kws, vws, e, s _ _ q, RelPs.mono s hr hn r1, RelPs.mono s hr hn r2, d⟩
  | .loc l, _, h => by
    rw [RelP] at h ⊢
    obtain ⟨q, e⟩ := h
    exact ⟨Nat.lt_of_lt_of_le q hn, by rw [hr l q]; exact e⟩
theorem RelPs.mono (s : Sub F F') (hr : ∀ l, l < n → ρ' l = ρ l) (hn : n ≤ n') : ∀ {xs : List PV} {vs : List V}, RelPs K F ρ n xs vs → RelPs K F' ρ' n' xs vs
  | [], _, h => by rw [RelPs] at h ⊢; exact h
  | x :: r, _, h => by
    rw [RelPs] at h ⊢
    obtain ⟨w, ws, e, h1, h2⟩ := h
    exact ⟨w, ws, e, RelP.mono s hr hn h1, RelPs.mono s hr hn h2⟩
end
mutual
/-- a value all whose places lie below m -/
theorem RelP.low (hr : ∀ l, l < m → ρ' l = ρ l) : ∀ {x : PV} {v : V}, x.lb m = true → RelP K F ρ n x v → RelP K F ρ' m x v
  | .non, _, _, h => by rw [RelP] at h ⊢; exact h
  | .bl _, _, _, h => by rw [RelP] at h ⊢; exact h
  | .int _, _, _, h => by rw [RelP] at h ⊢; exact h
  | .str _, _, _, h => by rw [RelP] at h ⊢; exact h
  | .tup xs, _, q, h => by
    rw [RelP] at h ⊢
    obtain ⟨a, vs, e, t, r⟩ := h
    exact ⟨a, vs, e, t, RelPs.low hr (by rw [PV.lb] at q; exact q) r⟩
  | .lst xs, _, q, h => by
    rw [RelP] at h ⊢
    obtain ⟨a, vs, e, t, r⟩ := h
    exact ⟨a, vs, e, t, RelPs.low hr (by rw [PV.lb] at q; exact q) r⟩
  | .ro xs, _, q, h => by
    rw [RelP] at h ⊢
    obtain ⟨a, vs, e, t, r⟩ := h
    exact ⟨a, vs, e, t, RelPs.low hr (by rw [PV.lb] at q; exact q) r⟩
  | .dct ks vs, _, q, h => by
    rw [RelP] at h ⊢
    rw [PV.lb, Bool.and_eq_true] at q
    obtain ⟨a, ob, kws, vws, e, t, r1, r2, d⟩ := h
    exact ⟨a, ob, kws, vws, e, t, RelPs.low hr q.1 r1, RelPs.low hr q.2 r2, d⟩
  | .loc l, _, q, h => by
    rw [RelP] at h ⊢
    rw [PV.lb, decide_eq_true_eq] at q
    exact ⟨q, by rw [hr l q]; exact h.2⟩
theorem RelPs.low (hr : ∀ l, l < m → ρ' l = ρ l) : ∀ {xs : List PV} {vs : List V}, lbs m xs = true → RelPs K F ρ n xs vs → RelPs K F ρ' m xs vs
  | [], _, _, h => by rw [RelPs] at h ⊢; exact h
  | x :: r, _, q, h => by
    rw [RelPs] at h ⊢
    rw [lbs, Bool.and_eq_true] at q
    obtain ⟨w, ws, e, h1, h2⟩ := h
    exact ⟨w, ws, e, RelP.low hr q.1 h1, RelPs.low hr q.2 h2⟩
end
theorem RelPs.free0 {xs : List PV} {vs : List V} (q : lbs 0 xs = true) (h : RelPs K F ρ n xs vs) : RelPs K F ρ' 0 xs vs := RelPs.low (fun _ z => absurd z (Nat.not_lt_zero _)) q h
theorem RelP.free0 {x : PV} {v : V} (q : x.lb 0 = true) (h : RelP K F ρ n x v) : RelP K F ρ' 0 x v := RelP.low (fun _ z => absurd z (Nat.not_lt_zero _)) q h
theorem RelPs.any {xs : List PV} {vs : List V} (h : RelPs K F ρ 0 xs vs) : RelPs K F ρ' n xs vs := RelPs.mono (fun _ _ z => z) (fun _ z => absurd z (Nat.not_lt_zero _)) (Nat.zero_le _) h
theorem RelP.any {x : PV} {v : V} (h : RelP K F ρ 0 x v) : RelP K F ρ' n x v := RelP.mono (fun _ _ z => z) (fun _ z => absurd z (Nat.not_lt_zero _)) (Nat.zero_le _) h
theorem RelPs.nil : RelPs K F ρ n [] [] := by rw [RelPs]
theorem RelPs.cons {x : PV} {v : V} {xs : List PV} {vs : List V} (h : RelP K F ρ n x v) (t : RelPs K F ρ n xs vs) : RelPs K F ρ n (x :: xs) (v :: vs) := by
  rw [RelPs]; exact ⟨v, vs, rfl, h, t⟩
theorem RelPs.inv {x : PV} {xs : List PV} {vs : List V} (h : RelPs K F ρ n (x :: xs) vs) : ∃ w ws, vs = w :: ws ∧ RelP K F ρ n x w ∧ RelPs K F ρ n xs ws := by
  rw [RelPs] at h; exact h
theorem RelPs.inv0 {vs : List V} (h : RelPs K F ρ n [] vs) : vs = [] := by rw [RelPs] at h; exact h
theorem RelPs.length : ∀ {xs : List PV} {vs : List V}, RelPs K F ρ n xs vs → xs.length = vs.length
  | [], _, h => by rw [h.inv0]; rfl
  | x :: r, _, h => by
    obtain ⟨w, ws, e, _, t⟩ := h.inv
    rw [e, List.length_cons, List.length_cons, RelPs.length t]
theorem RelPs.get : ∀ {xs : List PV} {vs : List V} {i : Nat} {x : PV}, RelPs K F ρ n xs vs → xs[i]? = some x → ∃ w, vs[i]? = some w ∧ RelP K F ρ n x w
  | [], _, _, _, _, e => by simp at e
  | y :: r, _, 0, x, h, e => by
    obtain ⟨w, ws, rfl, q, _⟩ := h.inv
    simp at e; subst e
    exact ⟨w, rfl, q⟩
  | y :: r, _, i + 1, x, h, e => by
    obtain ⟨w, ws, rfl, _, t⟩ := h.inv
    obtain ⟨u, h1, h2⟩ := RelPs.get (i := i) t (by simpa using e)
    exact ⟨u, by simpa using h1, h2⟩
theorem RelPs.append : ∀ {xs ys : List PV} {vs ws : List V}, RelPs K F ρ n xs vs → RelPs K F ρ n ys ws → RelPs K F ρ n (xs ++ ys) (vs ++ ws)
  | [], _, _, _, h, q => by rw [h.inv0]; exact q
  | x :: r, _, _, _, h, q => by
    obtain ⟨w, ws, rfl, h1, t⟩ := h.inv
    exact .cons h1 (RelPs.append t q)
theorem RelPs.set {x : PV} {v : V} (q : RelP K F ρ n x v) : ∀ {xs : List PV} {vs : List V} (i : Nat), RelPs K F ρ n xs vs → RelPs K F ρ n (xs.set i x) (vs.set i v)
  | [], _, _, h => by rw [h.inv0]; exact .nil
  | y :: r, _, 0, h => by
    obtain ⟨w, ws, rfl, _, t⟩ := h.inv
    exact .cons q t
  | y :: r, _, i + 1, h => by
    obtain ⟨w, ws, rfl, h1, t⟩ := h.inv
    exact .cons h1 (RelPs.set q i t)
theorem RelPs.take : ∀ {xs : List PV} {vs : List V} (i : Nat), RelPs K F ρ n xs vs → RelPs K F ρ n (xs.take i) (vs.take i)
  | _, _, 0, _ => by rw [List.take_zero, List.take_zero]; exact .nil
  | [], _, _ + 1, h => by rw [h.inv0]; exact .nil
  | y :: r, _, i + 1, h => by
    obtain ⟨w, ws, rfl, h1, t⟩ := h.inv
    exact .cons h1 (RelPs.take i t)
theorem RelPs.drop : ∀ {xs : List PV} {vs : List V} (i : Nat), RelPs K F ρ n xs vs → RelPs K F ρ n (xs.drop i) (vs.drop i)
  | _, _, 0, h => h
  | [], _, _ + 1, h => by rw [h.inv0]; exact .nil
  | y :: r, _, i + 1, h => by
    obtain ⟨w, ws, rfl, h1, t⟩ := h.inv
    exact RelPs.drop i t
theorem RelPs.reverse : ∀ {xs : List PV} {vs : List V}, RelPs K F ρ n xs vs → RelPs K F ρ n xs.reverse vs.reverse
  | [], _, h => by rw [h.inv0]; exact .nil
  | y :: r, _, h => by
    obtain ⟨w, ws, rfl, h1, t⟩ := h.inv
    rw [List.reverse_cons, List.reverse_cons]
    exact .append (RelPs.reverse t) (.cons h1 .nil)
theorem RelPs.dropLast {xs : List PV} {vs : List V} (h : RelPs K F ρ n xs vs) : RelPs K F ρ n xs.dropLast vs.dropLast := by
  rw [List.dropLast_eq_take, List.dropLast_eq_take, h.length]
  exact h.take _
theorem RelPs.replicate {xs : List PV} {vs : List V} (h : RelPs K F ρ n xs vs) : ∀ k : Nat, RelPs K F ρ n (List.replicate k xs).flatten (List.replicate k vs).flatten
  | 0 => .nil
  | k + 1 => by
    rw [List.replicate_succ, List.replicate_succ, List.flatten_cons, List.flatten_cons]
    exact .append h (RelPs.replicate h k)
theorem RelPs.ints : ∀ (ns : List Int), RelPs K F ρ n (ns.map .int) (ns.map V.int)
  | [] => .nil
  | i :: r => .cons (by rw [RelP]) (RelPs.ints r)
theorem RelPs.intsInv : ∀ {xs : List PV} {vs : List V} {ns : List Int}, intsOf xs = some ns → RelPs K F ρ n xs vs → vs = ns.map V.int
  | [], _, _, e, h => by
    rw [intsOf] at e; cases e
    rw [h.inv0]; rfl
  | .int i :: r, _, _, e, h => by
    rw [intsOf] at e
    cases q : intsOf r with
    | none => rw [q] at e; cases e
    | some l =>
      rw [q] at e; cases e
      obtain ⟨w, ws, rfl, h1, t⟩ := h.inv
      rw [RelP] at h1
      rw [h1, RelPs.intsInv q t]; rfl
  | .non :: r, _, _, e, h => by rw [intsOf] at e <;> (try cases e) <;> (intro _ _ z; cases z)
  | .bl _ :: r, _, _, e, h => by rw [intsOf] at e <;> (try cases e) <;> (intro _ _ z; cases z)
  | .str _ :: r, _, _, e, h => by rw [intsOf] at e <;> (try cases e) <;> (intro _ _ z; cases z)
  | .tup _ :: r, _, _, e, h => by rw [intsOf] at e <;> (try cases e) <;> (intro _ _ z; cases z)
  | .lst _ :: r, _, _, e, h => by rw [intsOf] at e <;> (try cases e) <;> (intro _ _ z; cases z)
  | .ro _ :: r, _, _, e, h => by rw [intsOf] at e <;> (try cases e) <;> (intro _ _ z; cases z)
  | .dct _ _ :: r, _, _, e, h => by rw [intsOf] at e <;> (try cases e) <;> (intro _ _ z; cases z)
  | .loc _ :: r, _, _, e, h => by rw [intsOf] at e <;> (try cases e) <;> (intro _ _ z; cases z)
end

/-! ### worlds -/
def CRel (K : PySem.W.Frag) (F : Hp) (ρ : Nat → Addr) (n : Nat) (a : Addr) : Cell → Option HO → Prop
  | .lst xs, o => ∃ vs, o = some (.lst vs) ∧ RelPs K F ρ n xs vs
  | .dct ks vs, o => ∃ ob kws vws, o = some (dO a ob) ∧ RelPs K F ρ n ks kws ∧ RelPs K F ρ n vs vws ∧ DObj a ks kws vws ob
theorem CRel.mono {K : PySem.W.Frag} {F F' : Hp} {ρ ρ' : Nat → Addr} {n n' : Nat} {a : Addr} {c : Cell} {o : Option HO} (s : Sub F F') (hr : ∀ l, l < n → ρ' l = ρ l) (hn : n ≤ n') (h : CRel K F ρ n a c o) : CRel K F' ρ' n' a c o := by
  cases c with
  | lst xs =>
    obtain ⟨vs, e, r⟩ := h
    exact ⟨vs, e, r.mono s hr hn⟩
  | dct ks vs =>
    obtain ⟨ob, kws, vws, e, r1, r2, d⟩ := h
    exact ⟨ob, kws, vws, e, r1.mono s hr hn, r2.mono s hr hn, d⟩
theorem CRel.low {K : PySem.W.Frag} {F : Hp} {ρ ρ' : Nat → Addr} {n m : Nat} {a : Addr} {c : Cell} {o : Option HO} (hr : ∀ l, l < m → ρ' l = ρ l) (q : c.lb m = true) (h : CRel K F ρ n a c o) : CRel K F ρ' m a c o := by
  cases c with
  | lst xs =>
    obtain ⟨vs, e, r⟩ := h
    exact ⟨vs, e, r.low hr q⟩
  | dct ks vs =>
    have q : (lbs m ks && lbs m vs) = true := q
    rw [Bool.and_eq_true] at q
    obtain ⟨ob, kws, vws, e, r1, r2, d⟩ := h
    exact ⟨ob, kws, vws, e, r1.low hr q.1, r2.low hr q.2, d⟩
theorem CRel.some' {K : PySem.W.Frag} {F : Hp} {ρ : Nat → Addr} {n : Nat} {a : Addr} {c : Cell} {o : Option HO} (h : CRel K F ρ n a c o) : ∃ u, o = some u := by
  cases c with
  | lst xs => obtain ⟨vs, e, _⟩ := h; exact ⟨_, e⟩
  | dct _ _ => obtain ⟨ob, _, _, e, _⟩ := h; exact ⟨_, e⟩
structure Wld (K : PySem.W.Frag) (F : Hp) (ρ : Nat → Addr) (st : Sto) (H : Hp) : Prop where
  sub : Sub F H
  cell : ∀ l c, st.cs l = some c → F (ρ l) = none ∧ CRel K F ρ st.nxt (ρ l) c (H (ρ l))
  inj : ∀ l l' c c', st.cs l = some c → st.cs l' = some c' → ρ l = ρ l' → l = l'
structure Pst (K : PySem.W.Frag) (F : Hp) (ρ : Nat → Addr) (st : Sto) (H : Hp) (F' : Hp) (ρ' : Nat → Addr) (st' : Sto) (H' : Hp) : Prop where
  ex : Sub F F'
  rho : ∀ l, l < st.nxt → ρ' l = ρ l
  nxt : st.nxt ≤ st'.nxt
  wld : Wld K F' ρ' st' H'
  live : ∀ l c, l < st.nxt → st'.cs l = some c → ∃ c0, st.cs l = some c0
  fresh : ∀ l c, st.nxt ≤ l → st'.cs l = some c → H (ρ' l) = none
  ext : ∀ a o, H a = some o → (∀ l c, st.cs l = some c → ρ l ≠ a) → H' a = some o
  dom : ∀ a o, H a = some o → ∃ o', H' a = some o'
  fz : ∀ a o, F' a = some o → F a = some o ∨ H a = none ∨ ∃ l c, st.cs l = some c ∧ ρ l = a
section
variable {K : PySem.W.Frag} {F F1 F2 : Hp} {ρ ρ1 ρ2 : Nat → Addr} {st st1 st2 : Sto} {H H1 H2 : Hp}
theorem Pst.refl (w : Wld K F ρ st H) : Pst K F ρ st H F ρ st H :=
  ⟨fun _ _ z => z, fun _ _ => rfl, Nat.le_refl _, w, fun l c _ z => ⟨c, z⟩, fun l c q z => absurd (Sto.lt_of z) (Nat.not_lt.mpr q), fun _ _ z _ => z, fun _ o z => ⟨o, z⟩, fun _ _ z => .inl z⟩
theorem Pst.trans (a : Pst K F ρ st H F1 ρ1 st1 H1) (b : Pst K F1 ρ1 st1 H1 F2 ρ2 st2 H2) : Pst K F ρ st H F2 ρ2 st2 H2 where
  ex := fun x o z => b.ex x o (a.ex x o z)
  rho := fun l q => (b.rho l (Nat.lt_of_lt_of_le q a.nxt)).trans (a.rho l q)
  nxt := Nat.le_trans a.nxt b.nxt
  wld := b.wld
  live := fun l c q z => by
    obtain ⟨c1, h1⟩ := b.live l c (Nat.lt_of_lt_of_le q a.nxt) z
    exact a.live l c1 q h1
  fresh := fun l c q z => by
    by_cases h : l < st1.nxt
    · obtain ⟨c1, h1⟩ := b.live l c h z
      rw [b.rho l h]
      exact a.fresh l c1 q h1
    · have h2 := b.fresh l c (Nat.not_lt.mp h) z
      cases e : H (ρ2 l) with
      | none => rfl
      | some o =>
        obtain ⟨o', h3⟩ := a.dom _ _ e
        rw [h2] at h3; cases h3
  ext := fun x o z q => by
    refine b.ext x o (a.ext x o z q) fun l c h1 e => ?_
    by_cases h : l < st.nxt
    · obtain ⟨c0, h0⟩ := a.live l c h h1
      exact q l c0 h0 (by rw [← a.rho l h]; exact e)
    · have := a.fresh l c (Nat.not_lt.mp h) h1
      rw [e, z] at this; cases this
  dom := fun x o z => by
    obtain ⟨o1, h1⟩ := a.dom x o z
    exact b.dom x o1 h1
  fz := fun x o z => by
    have gone : H1 x = none → H x = none := fun h => by
      cases e : H x with
      | none => rfl
      | some u =>
        obtain ⟨o', h3⟩ := a.dom _ _ e
        rw [h] at h3; cases h3
    rcases b.fz x o z with h | h | ⟨l, c, h, e⟩
    · exact a.fz x o h
    · exact .inr (.inl (gone h))
    · by_cases q : l < st.nxt
      · obtain ⟨c0, h0⟩ := a.live l c q h
        exact .inr (.inr ⟨l, c0, h0, by rw [← a.rho l q]; exact e⟩)
      · refine .inr (.inl ?_)
        rw [← e]
        exact a.fresh l c (Nat.not_lt.mp q) h
theorem Wld.ne (w : Wld K F ρ st H) {l : Nat} {c : Cell} {p : Addr} (h : st.cs l = some c) (hp : H p = none) : ρ l ≠ p := fun e => by
  obtain ⟨u, hu⟩ := (w.cell l c h).2.some'
  rw [e, hp] at hu; cases hu
/-- a new thing that nobody changes -/
theorem Wld.new (w : Wld K F ρ st H) {p : Addr} {o : HO} (hp : H p = none) : Pst K F ρ st H (upd F p o) ρ st (upd H p o) := by
  have fp : F p = none := by
    cases e : F p with
    | none => rfl
    | some u => have := w.sub p u e; rw [hp] at this; cases this
  have sF : Sub F (upd F p o) := fun a u z => by rw [upd_ne (ne_of_none z fp)]; exact z
  refine ⟨sF, fun _ _ => rfl, Nat.le_refl _, ⟨fun a u z => ?_, fun l c z => ?_, w.inj⟩, fun l c _ z => ⟨c, z⟩, fun l c q z => absurd (Sto.lt_of z) (Nat.not_lt.mpr q), fun a u z _ => ?_, fun a u z => ⟨u, ?_⟩, fun a u z => ?_⟩
  · by_cases e : a = p
    · subst e; rw [upd_same] at z ⊢; exact z
    · rw [upd_ne e] at z ⊢; exact w.sub a u z
  · have n := w.ne z hp
    rw [upd_ne n, upd_ne n]
    exact ⟨(w.cell l c z).1, (w.cell l c z).2.mono sF (fun _ _ => rfl) (Nat.le_refl _)⟩
  · rw [upd_ne (ne_of_none z hp)]; exact z
  · rw [upd_ne (ne_of_none z hp)]; exact z
  · by_cases e : a = p
    · subst e; exact .inr (.inl hp)
    · rw [upd_ne e] at z; exact .inl z
/-- a new place -/
theorem Wld.alloc (w : Wld K F ρ st H) {p : Addr} {o : HO} {c : Cell} (hp : H p = none) (hlb : c.lb st.nxt = true) (hc : CRel K F ρ st.nxt p c (some o)) :
    Pst K F ρ st H F (fun l => if l = st.nxt then p else ρ l) (st.alloc c) (upd H p o) := by
  have fp : F p = none := by
    cases e : F p with
    | none => rfl
    | some u => have := w.sub p u e; rw [hp] at this; cases this
  have hr : ∀ l, l < st.nxt → (fun l => if l = st.nxt then p else ρ l) l = ρ l := fun l q => if_neg (by omega)
  refine ⟨fun _ _ z => z, hr, by rw [Sto.alloc_nxt]; omega, ⟨fun a u z => ?_, fun l d z => ?_, fun l l' d d' z z' e => ?_⟩, fun l d q z => ?_, fun l d q z => ?_, fun a u z _ => ?_, fun a u z => ⟨u, ?_⟩, fun _ _ z => .inl z⟩
  · rw [upd_ne (ne_of_none z fp)]; exact w.sub a u z
  · by_cases e : l = st.nxt
    · subst e
      rw [Sto.alloc_get hlb] at z; cases z
      rw [if_pos rfl, upd_same]
      exact ⟨fp, hc.mono (fun _ _ z => z) hr (by rw [Sto.alloc_nxt]; omega)⟩
    · rw [Sto.alloc_ne e] at z
      rw [if_neg e, upd_ne (w.ne z hp)]
      exact ⟨(w.cell l d z).1, (w.cell l d z).2.mono (fun _ _ z => z) hr (by rw [Sto.alloc_nxt]; omega)⟩
  · by_cases h : l = st.nxt
    · by_cases h' : l' = st.nxt
      · rw [h, h']
      · rw [if_pos h, if_neg h'] at e
        rw [Sto.alloc_ne h'] at z'
        exact absurd e.symm (w.ne z' hp)
    · by_cases h' : l' = st.nxt
      · rw [if_neg h, if_pos h'] at e
        rw [Sto.alloc_ne h] at z
        exact absurd e (w.ne z hp)
      · rw [if_neg h, if_neg h'] at e
        rw [Sto.alloc_ne h] at z
        rw [Sto.alloc_ne h'] at z'
        exact w.inj l l' d d' z z' e
  · rw [Sto.alloc_ne (by omega)] at z; exact ⟨d, z⟩
  · by_cases e : l = st.nxt
    · rw [if_pos e]; exact hp
    · rw [Sto.alloc_ne e] at z
      exact absurd (Sto.lt_of z) (Nat.not_lt.mpr q)
  · rw [upd_ne (ne_of_none z hp)]; exact z
  · rw [upd_ne (ne_of_none z hp)]; exact z
/-- a place is rewritten -/
theorem Wld.set (w : Wld K F ρ st H) {l : Nat} {o : HO} {c c0 : Cell} (hl : st.cs l = some c0) (hlb : c.lb st.nxt = true) (hc : CRel K F ρ st.nxt (ρ l) c (some o)) : Pst K F ρ st H F ρ (st.set l c) (upd H (ρ l) o) := by
  obtain ⟨fl, hcl⟩ := w.cell l c0 hl
  refine ⟨fun _ _ z => z, fun _ _ => rfl, Nat.le_refl _, ⟨fun a u z => ?_, fun j d z => ?_, fun j j' d d' z z' e => ?_⟩, fun j d q z => ?_, fun j d q z => ?_, fun a u z n => ?_, fun a u z => ?_, fun _ _ z => .inl z⟩
  · rw [upd_ne (ne_of_none z fl)]; exact w.sub a u z
  · by_cases e : j = l
    · subst e
      rw [Sto.set_get hl hlb] at z; cases z
      rw [upd_same]
      exact ⟨fl, hc⟩
    · rw [Sto.set_ne e] at z
      have n : ρ j ≠ ρ l := fun q => e (w.inj j l d c0 z hl q)
      rw [upd_ne n]
      exact w.cell j d z
  · have h : ∃ d0, st.cs j = some d0 := by
      by_cases e : j = l
      · subst e; exact ⟨_, hl⟩
      · rw [Sto.set_ne e] at z; exact ⟨_, z⟩
    have h' : ∃ d0, st.cs j' = some d0 := by
      by_cases e : j' = l
      · subst e; exact ⟨_, hl⟩
      · rw [Sto.set_ne e] at z'; exact ⟨_, z'⟩
    obtain ⟨d0, h⟩ := h
    obtain ⟨d1, h'⟩ := h'
    exact w.inj j j' d0 d1 h h' e
  · by_cases e : j = l
    · subst e; exact ⟨_, hl⟩
    · rw [Sto.set_ne e] at z; exact ⟨_, z⟩
  · exact absurd (Sto.lt_of z) (Nat.not_lt.mpr q)
  · rw [upd_ne (Ne.symm (n l c0 hl))]; exact z
  · by_cases e : a = ρ l
    · subst e; exact ⟨o, upd_same⟩
    · rw [upd_ne e]; exact ⟨u, z⟩
open Classical in
noncomputable def mixF (b : Nat) (st : Sto) (ρ : Nat → Addr) (H F : Hp) : Hp := fun a => if ∃ l c, b ≤ l ∧ st.cs l = some c ∧ ρ l = a then H a else F a
theorem mixF_pos {b : Nat} {a : Addr} (h : ∃ l c, b ≤ l ∧ st.cs l = some c ∧ ρ l = a) : mixF b st ρ H F a = H a := if_pos h
theorem mixF_neg {b : Nat} {a : Addr} (h : ¬ ∃ l c, b ≤ l ∧ st.cs l = some c ∧ ρ l = a) : mixF b st ρ H F a = F a := if_neg h
/-- the places from b on are places no more: what stands there stays so -/
theorem Wld.drop (w : Wld K F ρ st H) {b : Nat} (hb : b ≤ st.nxt) : ∃ F', Sub F F' ∧ Wld K F' ρ (st.restr b) H ∧ (∀ l c, b ≤ l → st.cs l = some c → F' (ρ l) = H (ρ l)) ∧ ∀ a o, F' a = some o → F a = some o ∨ ∃ l c, b ≤ l ∧ st.cs l = some c ∧ ρ l = a := by
  have sub : Sub F (mixF b st ρ H F) := fun a o z => by
    by_cases h : ∃ l c, b ≤ l ∧ st.cs l = some c ∧ ρ l = a
    · rw [mixF_pos h]; exact w.sub a o z
    · rw [mixF_neg h]; exact z
  have low : ∀ l c, (st.restr b).cs l = some c → st.cs l = some c ∧ l < b ∧ c.lb b = true := fun l c z => Sto.restr_get z
  refine ⟨mixF b st ρ H F, sub, ⟨fun a o z => ?_, fun l c z => ?_, fun l l' c c' z z' e => w.inj l l' c c' (low l c z).1 (low l' c' z').1 e⟩, fun l c q z => mixF_pos ⟨l, c, q, z, rfl⟩, fun a o z => ?_⟩
  · by_cases h : ∃ l c, b ≤ l ∧ st.cs l = some c ∧ ρ l = a
    · rw [mixF_pos h] at z; exact z
    · rw [mixF_neg h] at z; exact w.sub a o z
  · obtain ⟨z, q, qb⟩ := low l c z
    obtain ⟨f, r⟩ := w.cell l c z
    refine ⟨?_, (r.low (fun _ _ => rfl) qb).mono sub (fun _ _ => rfl) (Nat.le_refl _)⟩
    rw [mixF_neg]
    · exact f
    · rintro ⟨l', c', h1, h2, h3⟩
      have := w.inj l' l c' c h2 z h3
      omega
  · by_cases h : ∃ l c, b ≤ l ∧ st.cs l = some c ∧ ρ l = a
    · exact .inr h
    · rw [mixF_neg h] at z; exact .inl z
/-- a thing at D that is no part of the world is written -/
theorem Pst.side (a : Pst K F ρ st H F1 ρ1 st1 H1) {D : Addr} {o : HO} (hD : H D = none) (fD : F1 D = none) (nD : ∀ l c, st1.cs l = some c → ρ1 l ≠ D) : Pst K F ρ st H F1 ρ1 st1 (upd H1 D o) := by
  refine ⟨a.ex, a.rho, a.nxt, ⟨fun x u z => ?_, fun l c z => ?_, a.wld.inj⟩, a.live, a.fresh, fun x u z n => ?_, fun x u z => ?_, a.fz⟩
  · rw [upd_ne (ne_of_none z fD)]; exact a.wld.sub x u z
  · rw [upd_ne (nD l c z)]; exact a.wld.cell l c z
  · rw [upd_ne (ne_of_none z hD)]; exact a.ext x u z n
  · rw [upd_ne (ne_of_none z hD)]; exact a.dom x u z
/-- .. it is a value of the world from now on -/
theorem Pst.keepV (a : Pst K F ρ st H F1 ρ1 st1 H1) {D : Addr} {o : HO} (hD : H D = none) (fD : F1 D = none) (nD : ∀ l c, st1.cs l = some c → ρ1 l ≠ D) (h : H1 D = some o) : Pst K F ρ st H (upd F1 D o) ρ1 st1 H1 := by
  have sF : Sub F1 (upd F1 D o) := fun x u z => by rw [upd_ne (ne_of_none z fD)]; exact z
  refine ⟨fun x u z => sF x u (a.ex x u z), a.rho, a.nxt, ⟨fun x u z => ?_, fun l c z => ?_, a.wld.inj⟩, a.live, a.fresh, a.ext, a.dom, fun x u z => ?_⟩
  · by_cases e : x = D
    · subst e; rw [upd_same] at z; cases z; exact h
    · rw [upd_ne e] at z; exact a.wld.sub x u z
  · rw [upd_ne (nD l c z)]
    exact ⟨(a.wld.cell l c z).1, (a.wld.cell l c z).2.mono sF (fun _ _ => rfl) (Nat.le_refl _)⟩
  · by_cases e : x = D
    · subst e; exact .inr (.inl hD)
    · rw [upd_ne e] at z; exact a.fz x u z
/-- .. it is a place from now on -/
theorem Pst.keepL (a : Pst K F ρ st H F1 ρ1 st1 H1) {D : Addr} {o : HO} {c : Cell} (hD : H D = none) (fD : F1 D = none) (nD : ∀ l c, st1.cs l = some c → ρ1 l ≠ D) (h : H1 D = some o) (hlb : c.lb st1.nxt = true) (hc : CRel K F1 ρ1 st1.nxt D c (some o)) :
    Pst K F ρ st H F1 (fun l => if l = st1.nxt then D else ρ1 l) (st1.alloc c) H1 := by
  have hr : ∀ l, l < st1.nxt → (fun l => if l = st1.nxt then D else ρ1 l) l = ρ1 l := fun l q => if_neg (by omega)
  refine ⟨a.ex, fun l q => ?_, Nat.le_succ_of_le a.nxt, ⟨a.wld.sub, fun l d z => ?_, fun l l' d d' z z' e => ?_⟩, fun l d q z => ?_, fun l d q z => ?_, a.ext, a.dom, a.fz⟩
  · have := a.nxt
    show (if l = st1.nxt then D else ρ1 l) = ρ l
    rw [if_neg (by omega)]; exact a.rho l q
  · by_cases e : l = st1.nxt
    · subst e
      rw [Sto.alloc_get hlb] at z; cases z
      rw [if_pos rfl, h]
      exact ⟨fD, hc.mono (fun _ _ z => z) hr (by rw [Sto.alloc_nxt]; omega)⟩
    · rw [Sto.alloc_ne e] at z
      rw [if_neg e]
      exact ⟨(a.wld.cell l d z).1, (a.wld.cell l d z).2.mono (fun _ _ z => z) hr (by rw [Sto.alloc_nxt]; omega)⟩
  · by_cases h1 : l = st1.nxt
    · by_cases h2 : l' = st1.nxt
      · rw [h1, h2]
      · rw [if_pos h1, if_neg h2] at e
        rw [Sto.alloc_ne h2] at z'
        exact absurd e.symm (nD l' d' z')
    · by_cases h2 : l' = st1.nxt
      · rw [if_neg h1, if_pos h2] at e
        rw [Sto.alloc_ne h1] at z
        exact absurd e (nD l d z)
      · rw [if_neg h1, if_neg h2] at e
        rw [Sto.alloc_ne h1] at z
        rw [Sto.alloc_ne h2] at z'
        exact a.wld.inj l l' d d' z z' e
  · have := a.nxt
    rw [Sto.alloc_ne (by omega)] at z
    exact a.live l d q z
  · by_cases e : l = st1.nxt
    · rw [if_pos e]; exact hD
    · rw [if_neg e]
      rw [Sto.alloc_ne e] at z
      exact a.fresh l d q z
/-- a place is no place more -/
theorem Pst.kill (a : Pst K F ρ st H F1 ρ1 st1 H1) (l : Nat) : Pst K F ρ st H F1 ρ1 (st1.kill l) H1 := by
  have sub : ∀ j c, (st1.kill l).cs j = some c → st1.cs j = some c := fun j c z => by
    by_cases e : j = l
    · subst e; rw [Sto.kill_get] at z; cases z
    · rw [Sto.kill_ne e] at z; exact z
  exact ⟨a.ex, a.rho, a.nxt, ⟨a.wld.sub, fun j c z => a.wld.cell j c (sub j c z), fun j j' c c' z z' e => a.wld.inj j j' c c' (sub j c z) (sub j' c' z') e⟩, fun j c q z => a.live j c q (sub j c z), fun j c q z => a.fresh j c q (sub j c z), a.ext, a.dom, a.fz⟩
/-- what stands at a place becomes a value -/
theorem Wld.freeze (w : Wld K F ρ st H) {l : Nat} {c : Cell} (hl : st.cs l = some c) : ∃ F', Pst K F ρ st H F' ρ (st.kill l) H ∧ RelP K F' ρ st.nxt c.val (.ref (ρ l)) := by
  obtain ⟨fl, r⟩ := w.cell l _ hl
  obtain ⟨o, hv⟩ := r.some'
  have sF : Sub F (upd F (ρ l) o) := fun a u z => by rw [upd_ne (ne_of_none z fl)]; exact z
  have sub : ∀ j c, (st.kill l).cs j = some c → st.cs j = some c ∧ j ≠ l := fun j c z => by
    by_cases e : j = l
    · subst e; rw [Sto.kill_get] at z; cases z
    · rw [Sto.kill_ne e] at z; exact ⟨z, e⟩
  refine ⟨upd F (ρ l) o, ⟨sF, fun _ _ => rfl, Nat.le_refl _, ⟨fun a u z => ?_, fun j c z => ?_, fun j j' c c' z z' e => w.inj j j' c c' (sub j c z).1 (sub j' c' z').1 e⟩, fun j c _ z => ⟨c, (sub j c z).1⟩, fun j c q z => absurd (Sto.lt_of (sub j c z).1) (Nat.not_lt.mpr q), fun _ _ z _ => z, fun _ o z => ⟨o, z⟩, fun a o z => ?_⟩, ?_⟩
  · by_cases e : a = ρ l
    · subst e; rw [upd_same] at z; cases z; exact hv
    · rw [upd_ne e] at z; exact w.sub a u z
  · obtain ⟨z, e⟩ := sub j c z
    have n : ρ j ≠ ρ l := fun q => e (w.inj j l c _ z hl q)
    rw [upd_ne n]
    exact ⟨(w.cell j c z).1, (w.cell j c z).2.mono sF (fun _ _ => rfl) (Nat.le_refl _)⟩
  · by_cases e : a = ρ l
    · exact .inr (.inr ⟨l, _, hl, e.symm⟩)
    · rw [upd_ne e] at z; exact .inl z
  · rw [hv] at r
    cases c with
    | lst xs =>
      obtain ⟨vs, e, r⟩ := r
      cases e
      show RelP K _ ρ st.nxt (.lst xs) _
      rw [RelP]
      exact ⟨ρ l, vs, rfl, upd_same, r.mono sF (fun _ _ => rfl) (Nat.le_refl _)⟩
    | dct ks vs =>
      obtain ⟨ob, kws, vws, e, r1, r2, d⟩ := r
      cases e
      show RelP K _ ρ st.nxt (.dct ks vs) _
      rw [RelP]
      exact ⟨ρ l, ob, kws, vws, rfl, upd_same, r1.mono sF (fun _ _ => rfl) (Nat.le_refl _), r2.mono sF (fun _ _ => rfl) (Nat.le_refl _), d⟩
mutual
/-- what is told in the place's stead lies there -/
theorem RelP.subst {F' : Hp} {b n : Nat} {f : Nat → Option PV} (sF : Sub F F') (hf : ∀ l x', f l = some x' → RelP K F' ρ b x' (.ref (ρ l))) : ∀ {x x' : PV} {v : V}, RelP K F ρ n x v → x.sub f = some x' → RelP K F' ρ b x' v
  | .non, _, _, h, e => by rw [PV.sub] at e; cases e; rw [RelP] at h ⊢; exact h
  | .bl _, _, _, h, e => by rw [PV.sub] at e; cases e; rw [RelP] at h ⊢; exact h
  | .int _, _, _, h, e => by rw [PV.sub] at e; cases e; rw [RelP] at h ⊢; exact h
  | .str _, _, _, h, e => by rw [PV.sub] at e; cases e; rw [RelP] at h ⊢; exact h
  | .tup xs, _, _, h, e => by
    rw [PV.sub] at e
    cases q : subs f xs with
    | none => rw [q] at e; cases e
    | some ys =>
      rw [q] at e; cases e
      rw [RelP] at h ⊢
      obtain ⟨a, vs, e, t, r⟩ := h
      exact ⟨a, vs, e, sF.sqT t, RelPs.subst sF hf r q⟩
  | .lst xs, _, _, h, e => by
    rw [PV.sub] at e
    cases q : subs f xs with
    | none => rw [q] at e; cases e
    | some ys =>
      rw [q] at e; cases e
      rw [RelP] at h ⊢
      obtain ⟨a, vs, e, t, r⟩ := h
      exact ⟨a, vs, e, sF _ _ t, RelPs.subst sF hf r q⟩
  | .ro xs, _, _, h, e => by
    rw [PV.sub] at e
    cases q : subs f xs with
    | none => rw [q] at e; cases e
    | some ys =>
      rw [q] at e; cases e
      rw [RelP] at h ⊢
      obtain ⟨a, vs, e, t, r⟩ := h
      exact ⟨a, vs, e, sF.sqL t, RelPs.subst sF hf r q⟩
  | .dct ks vs, _, _, h, e => by
    rw [PV.sub] at e
    rw [RelP] at h
    obtain ⟨a, ob, kws, vws, e0, t, r1, r2, d⟩ := h
    have hk : lbs 0 ks = true := by obtain ⟨_, ⟨es, ep, _, z⟩, _⟩ := d; exact z.lb
    rw [subs_lb (b := 0) (fun _ z => absurd z (Nat.not_lt_zero _)) hk] at e
    cases q : subs f vs with
    | none => rw [q] at e; cases e
    | some ys =>
      rw [q] at e; cases e
      rw [RelP]
      exact ⟨a, ob, kws, vws, e0, sF _ _ t, (r1.free0 (ρ' := ρ) hk).any.mono sF (fun _ _ => rfl) (Nat.le_refl _), RelPs.subst sF hf r2 q, d⟩
  | .loc l, _, _, h, e => by
    rw [PV.sub] at e
    rw [RelP] at h
    obtain ⟨h1, rfl⟩ := h
    exact hf l _ e
theorem RelPs.subst {F' : Hp} {b n : Nat} {f : Nat → Option PV} (sF : Sub F F') (hf : ∀ l x', f l = some x' → RelP K F' ρ b x' (.ref (ρ l))) : ∀ {xs xs' : List PV} {vs : List V}, RelPs K F ρ n xs vs → subs f xs = some xs' → RelPs K F' ρ b xs' vs
  | [], _, _, h, e => by rw [subs] at e; cases e; rw [h.inv0]; exact .nil
  | x :: r, _, _, h, e => by
    rw [subs] at e
    cases q : x.sub f with
    | none => rw [q] at e; cases e
    | some y =>
      cases q2 : subs f r with
      | none => rw [q, q2] at e; cases e
      | some ys =>
        rw [q, q2] at e; cases e
        obtain ⟨w', ws, rfl, h1, t⟩ := h.inv
        exact .cons (RelP.subst sF hf h1 q) (RelPs.subst sF hf t q2)
end
theorem rsv_rel {F' : Hp} {b : Nat} (w : Wld K F ρ st H) (sF : Sub F F') (hf : ∀ l c, b ≤ l → st.cs l = some c → F' (ρ l) = H (ρ l)) : ∀ (m l : Nat) (x' : PV), rsv b st.cs m l = some x' → RelP K F' ρ b x' (.ref (ρ l)) := by
  intro m
  induction m with
  | zero =>
    intro l x' e
    have e : (if l < b then some (PV.loc l) else none) = some x' := e
    split at e
    · rename_i q
      cases e
      rw [RelP]
      exact ⟨q, rfl⟩
    · cases e
  | succ m ih =>
    intro l x' e
    by_cases q : l < b
    · rw [rsv_lt q] at e
      cases e
      rw [RelP]
      exact ⟨q, rfl⟩
    · cases d : st.cs l with
      | none =>
        have e : (if l < b then some (PV.loc l) else match st.cs l with | some c => c.val.sub (rsv b st.cs m) | none => none) = some x' := e
        rw [if_neg q, d] at e
        cases e
      | some c =>
        rw [rsv_ge (Nat.not_lt.mp q) d] at e
        obtain ⟨_, r⟩ := w.cell l c d
        have hF := hf l c (Nat.not_lt.mp q) d
        cases c with
        | lst xs =>
          obtain ⟨vs, hv, r⟩ := r
          have e : (PV.lst xs).sub (rsv b st.cs m) = some x' := e
          rw [PV.sub] at e
          cases z : subs (rsv b st.cs m) xs with
          | none => rw [z] at e; cases e
          | some ys =>
            rw [z] at e; cases e
            rw [RelP]
            exact ⟨ρ l, vs, rfl, by rw [hF]; exact hv, RelPs.subst sF ih r z⟩
        | dct ks vs =>
          obtain ⟨ob, kws, vws, hv, r1, r2, dd⟩ := r
          have e : (PV.dct ks vs).sub (rsv b st.cs m) = some x' := e
          have hk : lbs 0 ks = true := by obtain ⟨_, ⟨es, ep, _, z⟩, _⟩ := dd; exact z.lb
          rw [PV.sub, subs_lb (b := 0) (fun _ z => absurd z (Nat.not_lt_zero _)) hk] at e
          cases z : subs (rsv b st.cs m) vs with
          | none => rw [z] at e; cases e
          | some ys =>
            rw [z] at e; cases e
            rw [RelP]
            exact ⟨ρ l, ob, kws, vws, rfl, by rw [hF]; exact hv, (r1.free0 (ρ' := ρ) hk).any.mono sF (fun _ _ => rfl) (Nat.le_refl _), RelPs.subst sF ih r2 z, dd⟩
theorem RelP.res {F' : Hp} {b n : Nat} (w : Wld K F ρ st H) (sF : Sub F F') (hf : ∀ l c, b ≤ l → st.cs l = some c → F' (ρ l) = H (ρ l)) {x x' : PV} {v : V} (h : RelP K F ρ n x v) (e : x.res b st.cs = some x') : RelP K F' ρ b x' v :=
  RelP.subst sF (rsv_rel w sF hf 8) h e
/-- from st the places from b on are dropped: seen from an elder state at b -/
theorem Pst.drop {b : Nat} (a : Pst K F ρ st H F1 ρ1 st1 H1) (hb : b = st.nxt) : ∃ F', Sub F1 F' ∧ Pst K F ρ st H F' ρ1 (st1.restr b) H1 ∧ (∀ l c, b ≤ l → st1.cs l = some c → F' (ρ1 l) = H1 (ρ1 l)) ∧ ∀ x o, F' x = some o → F1 x = some o ∨ ∃ l c, b ≤ l ∧ st1.cs l = some c ∧ ρ1 l = x := by
  obtain ⟨F', s, w, f, g⟩ := a.wld.drop (b := b) (by rw [hb]; exact a.nxt)
  have sub : ∀ l c, (st1.restr b).cs l = some c → st1.cs l = some c ∧ l < b := fun l c z => ⟨(Sto.restr_get z).1, (Sto.restr_get z).2.1⟩
  refine ⟨F', s, ⟨fun x o z => s _ _ (a.ex x o z), a.rho, by rw [Sto.restr_nxt, hb]; exact Nat.le_refl _, w, fun l c q z => a.live l c q (sub l c z).1, fun l c q z => absurd (sub l c z).2 (by omega), a.ext, a.dom, fun x o z => ?_⟩, f, g⟩
  rcases g x o z with h | ⟨l, c, h1, h2, h3⟩
  · exact a.fz x o h
  · refine .inr (.inl ?_)
    rw [← h3]
    exact a.fresh l c (by rw [← hb]; exact h1) h2
end

/-! ### slots -/
def ERel (K : PySem.W.Frag) (F : Hp) (ρ : Nat → Addr) (n : Nat) (env : Env) (σ : L2.St) : Prop :=
  env.length = σ.length ∧ ∀ (i : Nat) (v : PV), env[i]? = some (some v) → ∃ w, σ[i]? = some (some w) ∧ RelP K F ρ n v w
section
variable {K : PySem.W.Frag} {F F1 F2 : Hp} {ρ ρ1 ρ2 : Nat → Addr} {st st1 st2 : Sto} {H H1 H2 : Hp} {env : Env} {σ : L2.St} {n n' : Nat}
theorem ERel.mono (s : Sub F F1) (hr : ∀ l, l < n → ρ1 l = ρ l) (hn : n ≤ n') (h : ERel K F ρ n env σ) : ERel K F1 ρ1 n' env σ :=
  ⟨h.1, fun i v e => let ⟨w, e2, r⟩ := h.2 i v e; ⟨w, e2, r.mono s hr hn⟩⟩
theorem ERel.step (a : Pst K F ρ st H F1 ρ1 st1 H1) (h : ERel K F ρ st.nxt env σ) : ERel K F1 ρ1 st1.nxt env σ := h.mono a.ex a.rho a.nxt
theorem RelP.step {v : PV} {w : V} (a : Pst K F ρ st H F1 ρ1 st1 H1) (h : RelP K F ρ st.nxt v w) : RelP K F1 ρ1 st1.nxt v w := h.mono a.ex a.rho a.nxt
theorem RelPs.step {v : List PV} {w : List V} (a : Pst K F ρ st H F1 ρ1 st1 H1) (h : RelPs K F ρ st.nxt v w) : RelPs K F1 ρ1 st1.nxt v w := h.mono a.ex a.rho a.nxt
theorem ERel.set {v : PV} {w : V} (h : ERel K F ρ n env σ) (r : RelP K F ρ n v w) (i : Nat) : ERel K F ρ n (env.set i (some v)) (σ.set i (some w)) := by
  refine ⟨by rw [List.length_set, List.length_set]; exact h.1, fun j u e => ?_⟩
  by_cases q : i = j
  · subst q
    by_cases hl : i < env.length
    · rw [List.getElem?_set_self hl] at e; cases e
      exact ⟨w, List.getElem?_set_self (by rw [← h.1]; exact hl), r⟩
    · rw [List.getElem?_eq_none (by rw [List.length_set]; omega)] at e; cases e
  · rw [List.getElem?_set_ne q] at e ⊢
    exact h.2 j u e
theorem ERel.wipe1 (h : ERel K F ρ n env σ) (i : Nat) : ERel K F ρ n (env.set i none) (σ.set i none) := by
  refine ⟨by rw [List.length_set, List.length_set]; exact h.1, fun j u e => ?_⟩
  by_cases q : i = j
  · subst q
    by_cases hl : i < env.length
    · rw [List.getElem?_set_self hl] at e; cases e
    · rw [List.getElem?_eq_none (by rw [List.length_set]; omega)] at e; cases e
  · rw [List.getElem?_set_ne q] at e ⊢
    exact h.2 j u e
theorem ERel.wipe (h : ERel K F ρ n env σ) : ∀ vs : List Nat, ERel K F ρ n (wipeE env vs) (L2.wipe σ vs)
  | [] => h
  | v :: vs => by rw [wipeE, L2.wipe]; exact (ERel.wipe h vs).wipe1 v
end
end DL

/-! DL2: expressions: what DL0's pieces compute is what the text computes. -/
namespace DL
open PySem PySem.Spec PyProof.Rows L2

section
variable (X : Cx)
def wE (e : Expr) : TE := fun σ H Q => ∀ pins s, Inv X pins σ H s → wpAny (model X.prog X.w) X.A (eval e X.env) (EP X pins σ Q) X.xe s
def wT (e : Expr) : TT := fun σ H Q => ∀ pins s, Inv X pins σ H s → wpAny (model X.prog X.w) X.A (isTrue e X.env (eval e X.env)) (TP X pins σ Q) X.xe s
def wW (e : Expr) : TT := fun σ H Q => ∀ whole pins s, Inv X pins σ H s → wpAny (model X.prog X.w) X.A (isTrue e X.env whole) (TP X pins σ Q) X.xe s
def wA (es : List Expr) : TA := fun σ H Q => ∀ pos pins s, Inv X pins σ H s → wpAny (model X.prog X.w) X.A (spliced (backTo pos (starEach es X.env))) (AP X pins σ Q) X.xe s
def wS (s : Stmt) : TS := fun D σ H => ∀ pins st, Inv X pins σ H st → wpAny (model X.prog X.w) X.A (exec s X.env) (SP X pins D) X.xe st
def wSs (s : List Stmt) : TS := fun D σ H => ∀ pins st, Inv X pins σ H st → wpAny (model X.prog X.w) X.A (execs s X.env) (SP X pins D) X.xe st
def wI (tg iter : Expr) : TI := fun σ H R => ∀ pins s, Inv X pins σ H s → wpAny (model X.prog X.w) X.A (eval iter X.env) (fun v s1 => wpAny (model X.prog X.w) X.A (pyIter v) (PIE X pins σ tg R) X.xe s1) X.xe s
def wG (tg : Expr) : TG := fun v σ H Q => ∀ pins s u, Inv X pins σ H s → RelV v u → wpAny (model X.prog X.w) X.A (assign tg X.env u) (fun _ s' => ∃ σ' H', Inv X pins σ' H' s' ∧ Q σ' H') X.xe s
def wGs (ts : List Expr) : TGs := fun vs σ H Q => ∀ pins s us, Inv X pins σ H s → Vals vs us → wpAny (model X.prog X.w) X.A (assignInOrder ((assignEach ts X.env).map (·.2)) us) (fun _ s' => ∃ σ' H', Inv X pins σ' H' s' ∧ Q σ' H') X.xe s
def wR (f : Value → Value → Sem Value) : R2 := fun x y H Q => ∀ pins s σ v u, Inv X pins σ H s → RelV x v → RelV y u → wpAny (model X.prog X.w) X.A (f v u) (EP X pins σ Q) X.xe s
def wU (f : Value → Sem Value) : V → Hp → VK → Prop := fun x H Q => ∀ pins s σ v, Inv X pins σ H s → RelV x v → wpAny (model X.prog X.w) X.A (f v) (EP X pins σ Q) X.xe s
def wC (f : Value) : List V → Hp → VK → Prop := fun xs H Q => ∀ pins s σ us, Inv X pins σ H s → Vals xs us → wpAny (model X.prog X.w) X.A (call f us) (EP X pins σ Q) X.xe s
def wM (id : String) : V → List V → Hp → VK → Prop := fun x xs H Q => ∀ pins s σ v us, Inv X pins σ H s → RelV x v → Vals xs us → wpAny (model X.prog X.w) X.A (call (.builtin id) (v :: us)) (EP X pins σ Q) X.xe s
def wIx : R2 := fun x y H Q => ∀ value slice pins s σ v u, Inv X pins σ H s → RelV x v → RelV y u → subscripted slice false v u = operate [v, u] (getItem v u) → wpAny (model X.prog X.w) X.A (subscriptTail value slice v u) (EP X pins σ Q) X.xe s
def wSet : TSet := fun o i v H Q => ∀ pins s σ ov iv u, Inv X pins σ H s → RelV o ov → RelV i iv → RelV v u → wpAny (model X.prog X.w) X.A (setItem ov iv u) (fun _ s' => ∃ H', Inv X pins σ H' s' ∧ Q H') X.xe s
def wO (e : Option Expr) : TO := fun σ H Q => ∀ (t : TO), PO X e t → t σ H Q
end
section
variable {X : Cx} {e : Expr} {σ : L2.St} {H : Hp}
theorem pe_w : PE X e (wE X e) := ⟨fun pins s _ _ _ I h => h pins s I⟩
theorem pt_w : PT X e (wT X e) := ⟨fun pins s _ _ _ I h => h pins s I⟩
theorem pw_w : PW X e (wW X e) := ⟨fun wh pins s _ _ _ I h => h wh pins s I⟩
theorem pa_w {es} : PA X es (wA X es) := ⟨fun pos pins s _ _ _ I h => h pos pins s I⟩
theorem ps_w {s} : PS X s (wS X s) := ⟨fun pins st _ _ _ I h => h pins st I⟩
theorem pss_w {s} : PSs X s (wSs X s) := ⟨fun pins st _ _ _ I h => h pins st I⟩
theorem pi_w {tg it} : PI X tg it (wI X tg it) := ⟨fun pins s _ _ _ I h => h pins s I⟩
theorem pg_w {tg} : PG X tg (wG X tg) := ⟨fun pins s _ _ _ u _ I r h => h pins s u I r⟩
theorem pgs_w {ts} : PGs X ts (wGs X ts) := ⟨fun pins s _ _ _ us _ I r h => h pins s us I r⟩
theorem opr_w {f} : OpR X f (wR X f) := fun pins s σ _ _ _ v u _ I r1 r2 h => h pins s σ v u I r1 r2
theorem unr_w {f} : UnR X f (wU X f) := fun pins s σ _ _ v _ I r1 h => h pins s σ v I r1
theorem cr_w {f} : CallR X f (wC X f) := fun pins s σ _ _ us _ I r h => h pins s σ us I r
theorem mr_w {id} : MtR X id (wM X id) := fun pins s σ _ _ _ v us _ I r1 r2 h => h pins s σ v us I r1 r2
theorem ix_w : IxR X (wIx X) := fun value slice pins s σ _ _ _ v u _ I r1 r2 h hs => h value slice pins s σ v u I r1 r2 hs
theorem set_w : PSet X (wSet X) := fun pins s σ _ _ _ _ ov iv u _ I r1 r2 r3 h => h pins s σ ov iv u I r1 r2 r3
theorem wE_of {t : TE} {Q : VK} (h : PE X e t) (q : t σ H Q) : wE X e σ H Q := fun pins s I => h.run pins s σ H Q I q
theorem wT_of {t : TT} {Q : Bool → Hp → Prop} (h : PT X e t) (q : t σ H Q) : wT X e σ H Q := fun pins s I => h.run pins s σ H Q I q
theorem wW_of {t : TT} {Q : Bool → Hp → Prop} (h : PW X e t) (q : t σ H Q) : wW X e σ H Q := fun wh pins s I => h.run wh pins s σ H Q I q
theorem wA_of {es} {t : TA} {Q : List V → Hp → Prop} (h : PA X es t) (q : t σ H Q) : wA X es σ H Q := fun pos pins s I => h.run pos pins s σ H Q I q
theorem wS_of {s} {t : TS} {D : Ends} (h : PS X s t) (q : t D σ H) : wS X s D σ H := fun pins st I => h.run pins st σ H D I q
theorem wSs_of {s} {t : TS} {D : Ends} (h : PSs X s t) (q : t D σ H) : wSs X s D σ H := fun pins st I => h.run pins st σ H D I q
theorem wI_of {tg it} {t : TI} {R} (h : PI X tg it t) (q : t σ H R) : wI X tg it σ H R := fun pins s I => h.run pins s σ H R I q
theorem wG_of {tg} {t : TG} {v} {Q} (h : PG X tg t) (q : t v σ H Q) : wG X tg v σ H Q := fun pins s u I r => h.run pins s σ H v u Q I r q
theorem wGs_of {ts} {t : TGs} {vs} {Q} (h : PGs X ts t) (q : t vs σ H Q) : wGs X ts vs σ H Q := fun pins s us I r => h.run pins s σ H vs us Q I r q
theorem wR_of {f} {r : R2} {x y} {Q : VK} (h : OpR X f r) (q : r x y H Q) : wR X f x y H Q := fun pins s σ v u I r1 r2 => h pins s σ H x y v u Q I r1 r2 q
theorem wU_of {f} {r : V → Hp → VK → Prop} {x} {Q : VK} (h : UnR X f r) (q : r x H Q) : wU X f x H Q := fun pins s σ v I r1 => h pins s σ H x v Q I r1 q
theorem wC_of {f} {r : List V → Hp → VK → Prop} {xs} {Q : VK} (h : CallR X f r) (q : r xs H Q) : wC X f xs H Q := fun pins s σ us I r1 => h pins s σ H xs us Q I r1 q
theorem wM_of {id} {r : V → List V → Hp → VK → Prop} {x xs} {Q : VK} (h : MtR X id r) (q : r x xs H Q) : wM X id x xs H Q := fun pins s σ v us I r1 r2 => h pins s σ H x xs v us Q I r1 r2 q
theorem wIx_of {r : R2} {x y} {Q : VK} (h : IxR X r) (q : r x y H Q) : wIx X x y H Q := fun value slice pins s σ v u I r1 r2 hs => h value slice pins s σ H x y v u Q I r1 r2 q hs
theorem wSet_of {t : TSet} {o i v} {Q} (h : PSet X t) (q : t o i v H Q) : wSet X o i v H Q := fun pins s σ ov iv u I r1 r2 r3 => h pins s σ H o i v ov iv u Q I r1 r2 r3 q
end

/-! ### what is shown of a piece -/
/-- what follows a value -/
abbrev Ct (K : PySem.W.Frag) (F : Hp) (ρ : Nat → Addr) (st : Sto) (H : Hp) (v : PV) (st' : Sto) (Q : VK) : Prop :=
  ∀ F' ρ' w H', Pst K F ρ st H F' ρ' st' H' → RelP K F' ρ' st'.nxt v w → Q w H'
abbrev Cts (K : PySem.W.Frag) (F : Hp) (ρ : Nat → Addr) (st : Sto) (H : Hp) (v : List PV) (st' : Sto) (Q : List V → Hp → Prop) : Prop :=
  ∀ F' ρ' w H', Pst K F ρ st H F' ρ' st' H' → RelPs K F' ρ' st'.nxt v w → Q w H'
def SndE (X : Cx) (e : Expr) (D : DE) : Prop := ∀ F ρ env st v st' σ H Q, Wld X.K F ρ st H → ERel X.K F ρ st.nxt env σ → D env st = some (v, st') → Ct X.K F ρ st H v st' Q → wE X e σ H Q
def SndA (X : Cx) (es : List Expr) (D : DA) : Prop := ∀ F ρ env st v st' σ H Q, Wld X.K F ρ st H → ERel X.K F ρ st.nxt env σ → D env st = some (v, st') → Cts X.K F ρ st H v st' Q → wA X es σ H Q
def SndT (X : Cx) (e : Expr) (D : DT) : Prop := ∀ F ρ env st b st' σ H Q, Wld X.K F ρ st H → ERel X.K F ρ st.nxt env σ → D env st = some (b, st') →
  (∀ F' ρ' H', Pst X.K F ρ st H F' ρ' st' H' → Q b H') → wT X e σ H Q
def SndW (X : Cx) (e : Expr) (D : DT) : Prop := ∀ F ρ env st b st' σ H Q, Wld X.K F ρ st H → ERel X.K F ρ st.nxt env σ → D env st = some (b, st') →
  (∀ F' ρ' H', Pst X.K F ρ st H F' ρ' st' H' → Q b H') → wW X e σ H Q
def SndO (X : Cx) (f : Value → Value → Sem Value) (D : PV → PV → M PV) : Prop := ∀ F ρ st x y w1 w2 v st' H Q, Wld X.K F ρ st H → RelP X.K F ρ st.nxt x w1 → RelP X.K F ρ st.nxt y w2 → D x y st = some (v, st') → Ct X.K F ρ st H v st' Q → wR X f w1 w2 H Q
def SndU (X : Cx) (f : Value → Sem Value) (D : PV → M PV) : Prop := ∀ F ρ st x w1 v st' H Q, Wld X.K F ρ st H → RelP X.K F ρ st.nxt x w1 → D x st = some (v, st') → Ct X.K F ρ st H v st' Q → wU X f w1 H Q
def SndC (X : Cx) (f : Value) (D : FSem) : Prop := ∀ F ρ st xs ws v st' H Q, Wld X.K F ρ st H → RelPs X.K F ρ st.nxt xs ws → D xs st = some (v, st') → Ct X.K F ρ st H v st' Q → wC X f ws H Q
def SndM (X : Cx) (id : String) (D : Nat → FSem) : Prop := ∀ F ρ st l xs ws v st' H Q, Wld X.K F ρ st H → RelPs X.K F ρ st.nxt xs ws → D l xs st = some (v, st') → Ct X.K F ρ st H v st' Q → wM X id (.ref (ρ l)) ws H Q
def SndIx (X : Cx) (D : PV → PV → M PV) : Prop := ∀ F ρ st x y w1 w2 v st' H Q, Wld X.K F ρ st H → RelP X.K F ρ st.nxt x w1 → RelP X.K F ρ st.nxt y w2 → D x y st = some (v, st') → Ct X.K F ρ st H v st' Q → wIx X w1 w2 H Q

/-! ### values -/
section
variable {X : Cx} {F : Hp} {ρ : Nat → Addr} {st st' : Sto} {H : Hp} {x v : PV} {w : V} {xs : List PV} {ws : List V} {Q : VK}
theorem Ct.here (W : Wld X.K F ρ st H) (c : Ct X.K F ρ st H v st Q) (r : RelP X.K F ρ st.nxt v w) : Q w H := c F ρ w H (Pst.refl W) r
theorem Ct.of {F1 : Hp} {ρ1 : Nat → Addr} {st1 : Sto} {H1 : Hp} (a : Pst X.K F ρ st H F1 ρ1 st1 H1) (c : Ct X.K F ρ st H v st' Q) : Ct X.K F1 ρ1 st1 H1 v st' Q := fun F' ρ' w H' p r => c F' ρ' w H' (a.trans p) r
theorem Ct.newV (W : Wld X.K F ρ st H) (c : Ct X.K F ρ st H v st Q) {p : Addr} {o : HO} (hp : H p = none) (r : RelP X.K (upd F p o) ρ st.nxt v (.ref p)) : Q (.ref p) (upd H p o) := c _ _ _ _ (W.new hp) r
theorem newF (W : Wld X.K F ρ st H) {p : Addr} {o : HO} (hp : H p = none) : Sub F (upd F p o) := (W.new hp).ex
theorem mkL_ok {m : Bool} (W : Wld X.K F ρ st H) (r : RelPs X.K F ρ st.nxt xs ws) (h : mkL m xs st = some (v, st')) (c : Ct X.K F ρ st H v st' Q) : ws.length ≤ sizeLine ∧ ∀ p, H p = none → Q (.ref p) (upd H p (.lst ws)) := by
  unfold mkL at h
  split at h
  · rename_i hz
    rw [r.length] at hz
    refine ⟨hz, fun p hp => ?_⟩
    split at h
    · split at h
      · rename_i hl
        cases h
        have a := W.alloc (c := .lst xs) (o := .lst ws) hp hl ⟨ws, rfl, r⟩
        refine c _ _ _ _ a ?_
        rw [RelP]
        exact ⟨by rw [Sto.alloc_nxt]; omega, by rw [if_pos rfl]⟩
      · cases h
    · cases h
      refine c.newV W hp ?_
      rw [RelP]
      exact ⟨p, ws, rfl, upd_same, r.mono (newF W hp) (fun _ _ => rfl) (Nat.le_refl _)⟩
  · cases h
theorem mkT_ok (W : Wld X.K F ρ st H) (r : RelPs X.K F ρ st.nxt xs ws) (h : mkT xs st = some (v, st')) (c : Ct X.K F ρ st H v st' Q) : ws.length ≤ sizeLine ∧ ∀ p, H p = none → Q (.ref p) (upd H p (.tup ws)) := by
  unfold mkT at h
  split at h
  · rename_i hz
    rw [r.length] at hz
    refine ⟨hz, fun p hp => ?_⟩
    cases h
    refine c.newV W hp ?_
    rw [RelP]
    exact ⟨p, ws, rfl, .inl (.inl upd_same), r.mono (newF W hp) (fun _ _ => rfl) (Nat.le_refl _)⟩
  · cases h
theorem tupV_ok (W : Wld X.K F ρ st H) (r : RelPs X.K F ρ st.nxt xs ws) (c : Ct X.K F ρ st H (.tup xs) st Q) {p : Addr} (hp : H p = none) : Q (.ref p) (upd H p (.tup ws)) := by
  refine c.newV W hp ?_
  rw [RelP]
  exact ⟨p, ws, rfl, .inl (.inl upd_same), r.mono (newF W hp) (fun _ _ => rfl) (Nat.le_refl _)⟩
theorem seq_ok (W : Wld X.K F ρ st H) (r : RelP X.K F ρ st.nxt x w) (h : seqOf st x = some xs) : ∃ a vs, w = .ref a ∧ (SqL X.K H a vs ∨ SqT X.K H a vs) ∧ RelPs X.K F ρ st.nxt xs vs := by
  unfold seqOf at h
  split at h
  · cases h
    rw [RelP] at r
    obtain ⟨a, vs, e, q, r⟩ := r
    exact ⟨a, vs, e, .inr (W.sub.sqT q), r⟩
  · cases h
    rw [RelP] at r
    obtain ⟨a, vs, e, q, r⟩ := r
    exact ⟨a, vs, e, .inl (.inl (.inl (W.sub _ _ q))), r⟩
  · cases h
    rw [RelP] at r
    obtain ⟨a, vs, e, q, r⟩ := r
    exact ⟨a, vs, e, .inl (W.sub.sqL q), r⟩
  · rename_i l
    rw [RelP] at r
    obtain ⟨q, rfl⟩ := r
    split at h
    · rename_i ys hy
      cases h
      obtain ⟨_, vs, e, r⟩ := W.cell l _ hy
      exact ⟨_, vs, rfl, .inl (.inl (.inl e)), r⟩
    · cases h
  · cases h
theorem lst_ok (W : Wld X.K F ρ st H) (r : RelP X.K F ρ st.nxt x w) (h : lstOf st x = some xs) : ∃ a vs, w = .ref a ∧ H a = some (.lst vs) ∧ RelPs X.K F ρ st.nxt xs vs := by
  unfold lstOf at h
  split at h
  · cases h
    rw [RelP] at r
    obtain ⟨a, vs, e, q, r⟩ := r
    exact ⟨a, vs, e, W.sub _ _ q, r⟩
  · rename_i l
    rw [RelP] at r
    obtain ⟨q, rfl⟩ := r
    split at h
    · rename_i ys hy
      cases h
      obtain ⟨_, vs, e, r⟩ := W.cell l _ hy
      exact ⟨_, vs, rfl, e, r⟩
    · cases h
  · cases h
theorem tup_ok (W : Wld X.K F ρ st H) (r : RelP X.K F ρ st.nxt (.tup xs) w) : ∃ a vs, w = .ref a ∧ SqT X.K H a vs ∧ RelPs X.K F ρ st.nxt xs vs := by
  rw [RelP] at r
  obtain ⟨a, vs, e, q, r⟩ := r
  exact ⟨a, vs, e, W.sub.sqT q, r⟩
theorem int_ok {K : PySem.W.Frag} {n : Nat} {i : Int} (r : RelP K F ρ n (.int i) w) : w = .int i := by rw [RelP] at r; exact r
theorem bl_ok {K : PySem.W.Frag} {n : Nat} {i : Bool} (r : RelP K F ρ n (.bl i) w) : w = .bl i := by rw [RelP] at r; exact r
theorem str_ok {K : PySem.W.Frag} {n : Nat} {i : Str} (r : RelP K F ρ n (.str i) w) : w = .str i := by rw [RelP] at r; exact r
theorem non_ok {K : PySem.W.Frag} {n : Nat} (r : RelP K F ρ n .non w) : w = .non := by rw [RelP] at r; exact r
theorem rel_int {K : PySem.W.Frag} {n : Nat} (i : Int) : RelP K F ρ n (.int i) (.int i) := by rw [RelP]
theorem rel_bl {K : PySem.W.Frag} {n : Nat} (i : Bool) : RelP K F ρ n (.bl i) (.bl i) := by rw [RelP]
theorem rel_str {K : PySem.W.Frag} {n : Nat} (i : Str) : RelP K F ρ n (.str i) (.str i) := by rw [RelP]
theorem rel_non {K : PySem.W.Frag} {n : Nat} : RelP K F ρ n .non .non := by rw [RelP]
end

/-! ### expressions -/
section
variable {X : Cx} {pos : Pos} {a b c e : Expr} {A B C : DE}
theorem snd_var {i : Nat} {x : Str} (hN : X.N[i]? = some x) (hv : Vis X.env.scope x) (hd : (x == ("__debug__" : Str)) = false) (hcd : (x == ("__classdict__" : Str)) = false) : SndE X (.Name x pos) (dVar i) := by
  intro F ρ env st v st' σ H Q W E h c
  unfold dVar at h
  split at h
  · rename_i u hu
    cases h
    obtain ⟨w, hw, r⟩ := E.2 i _ hu
    exact wE_of (pe_var hN hv hd hcd) ⟨w, hw, c.here W r⟩
  · cases h
theorem snd_frz {i : Nat} {x : Str} (hN : X.N[i]? = some x) (hv : Vis X.env.scope x) (hd : (x == ("__debug__" : Str)) = false) (hcd : (x == ("__classdict__" : Str)) = false) : SndE X (.Name x pos) (dFrz i) := by
  intro F ρ env st v st' σ H Q W E h c
  obtain ⟨u, st1, h1, h⟩ := mb_eq h
  unfold dVar at h1
  split at h1
  · rename_i u' hu
    cases h1
    obtain ⟨w, hw, r⟩ := E.2 i _ hu
    unfold frzL at h
    split at h
    · rename_i l
      split at h
      · rename_i cc hl
        cases h
        obtain ⟨F', P, r'⟩ := W.freeze hl
        rw [RelP] at r
        obtain ⟨_, rfl⟩ := r
        exact wE_of (pe_var hN hv hd hcd) ⟨_, hw, c _ _ _ _ P r'⟩
      · cases h
    · cases h
  · cases h1
theorem snd_int {i : Int} {j : Nat} : SndE X (.Constant (.int i) j pos) (dCst (.int i)) := by
  intro F ρ env st v st' σ H Q W E h c
  cases h
  exact wE_of pe_int (c.here W (rel_int _))
theorem snd_bl {i : Bool} {j : Nat} : SndE X (.Constant (.bool i) j pos) (dCst (.bl i)) := by
  intro F ρ env st v st' σ H Q W E h c
  cases h
  exact wE_of pe_bl (c.here W (rel_bl _))
theorem snd_str {i : Str} {j : Nat} : SndE X (.Constant (.str i) j pos) (dCst (.str i)) := by
  intro F ρ env st v st' σ H Q W E h c
  cases h
  exact wE_of pe_str (c.here W (rel_str _))
theorem snd_non {j : Nat} : SndE X (.Constant .none j pos) (dCst .non) := by
  intro F ρ env st v st' σ H Q W E h c
  cases h
  exact wE_of pe_non (c.here W rel_non)
/-- two in a row -/
theorem two (ha : SndE X a A) (hb : SndE X b B) {F : Hp} {ρ : Nat → Addr} {env : Env} {st : Sto} {σ : L2.St} {H : Hp} {v : PV} {st' : Sto} {f : PV → PV → M PV} {R : V → V → Hp → Prop}
    (W : Wld X.K F ρ st H) (E : ERel X.K F ρ st.nxt env σ) (h : dBin f A B env st = some (v, st'))
    (c : ∀ F' ρ' x y w1 w2 st2 H', Pst X.K F ρ st H F' ρ' st2 H' → RelP X.K F' ρ' st2.nxt x w1 → RelP X.K F' ρ' st2.nxt y w2 → f x y st2 = some (v, st') → R w1 w2 H') :
    wE X a σ H fun x H1 => wE X b σ H1 fun y H2 => R x y H2 := by
  obtain ⟨x, st1, h1, h⟩ := mb_eq h
  obtain ⟨y, st2, h2, h⟩ := mb_eq h
  refine ha F ρ env st x st1 σ H _ W E h1 fun F1 ρ1 w1 H1 p1 r1 => ?_
  refine hb F1 ρ1 env st1 y st2 σ H1 _ p1.wld (E.step p1) h2 fun F2 ρ2 w2 H2 p2 r2 => ?_
  exact c F2 ρ2 x y w1 w2 st2 H2 (p1.trans p2) (r1.step p2) r2 h
theorem snd_bin {op : Operator} {f : PV → PV → M PV} (ho : SndO X (binaryOp op) f) (ha : SndE X a A) (hb : SndE X b B) : SndE X (.BinOp a op b pos) (dBin f A B) := by
  intro F ρ env st v st' σ H Q W E h c
  refine wE_of (pe_op opr_w pe_w pe_w) ?_
  exact two ha hb W E h fun F' ρ' x y w1 w2 st2 H' p r1 r2 h => ho F' ρ' st2 x y w1 w2 v st' H' Q p.wld r1 r2 h (Ct.of p c)
theorem snd_cmp {op : CmpOp} {f : PV → PV → M PV} (ho : SndO X (compareOp op) f) (ha : SndE X a A) (hb : SndE X b B) (hm : behindInMarks op b = false) : SndE X (.Compare a [op] [b] pos) (dBin f A B) := by
  intro F ρ env st v st' σ H Q W E h c
  refine wE_of (pe_cmpR opr_w pe_w pe_w hm) ?_
  exact two ha hb W E h fun F' ρ' x y w1 w2 st2 H' p r1 r2 h => ho F' ρ' st2 x y w1 w2 v st' H' Q p.wld r1 r2 h (Ct.of p c)
theorem tst_cmp {op : CmpOp} {f : PV → PV → M PV} (ho : SndO X (compareOp op) f) (ha : SndE X a A) (hb : SndE X b B) (hm : behindInMarks op b = false) : SndT X (.Compare a [op] [b] pos) (tVal (dBin f A B)) := by
  intro F ρ env st v st' σ H Q W E h c
  obtain ⟨z, st3, h, h3⟩ := mb_eq h
  refine wT_of (pt_cmpR opr_w pe_w pe_w hm) ?_
  refine two ha hb W E h fun F' ρ' x y w1 w2 st2 H' p r1 r2 h => ho F' ρ' st2 x y w1 w2 z st3 H' _ p.wld r1 r2 h fun F3 ρ3 w H3 p3 r3 => ?_
  obtain ⟨rfl, rfl⟩ := asB_eq h3
  exact ⟨_, bl_ok r3, c F3 ρ3 H3 (p.trans p3)⟩
theorem snd_un {op : UnaryOp} {f : PV → M PV} (ho : SndU X (unaryOp op) f) (ha : SndE X a A) : SndE X (.UnaryOp op a pos) (dUn f A) := by
  intro F ρ env st v st' σ H Q W E h c
  obtain ⟨x, st1, h1, h⟩ := mb_eq h
  refine wE_of (pe_un unr_w pe_w) ?_
  exact ha F ρ env st x st1 σ H _ W E h1 fun F1 ρ1 w1 H1 p1 r1 => ho F1 ρ1 st1 x w1 v st' H1 Q p1.wld r1 h (Ct.of p1 c)
theorem isNon_ok {K : PySem.W.Frag} {F : Hp} {ρ : Nat → Addr} {n : Nat} {x : PV} {w : V} (r1 : RelP K F ρ n x w) : decide (w = .non) = isNonP x := by
  cases x with
  | non => rw [non_ok r1]; rfl
  | bl b => rw [bl_ok r1]; rfl
  | int b => rw [int_ok r1]; rfl
  | str b => rw [str_ok r1]; rfl
  | tup _ => rw [RelP] at r1; obtain ⟨_, _, rfl, _⟩ := r1; rfl
  | lst _ => rw [RelP] at r1; obtain ⟨_, _, rfl, _⟩ := r1; rfl
  | ro _ => rw [RelP] at r1; obtain ⟨_, _, rfl, _⟩ := r1; rfl
  | dct _ _ => rw [RelP] at r1; obtain ⟨_, _, _, _, rfl, _⟩ := r1; rfl
  | loc _ => rw [RelP] at r1; obtain ⟨_, rfl⟩ := r1; rfl
def isOp (neg : Bool) : CmpOp := if neg then .IsNot else .Is
theorem snd_isN {neg : Bool} {j : Nat} {p2 : Pos} (ha : SndE X a A) : SndE X (.Compare a [isOp neg] [.Constant .none j p2] pos) (dUn (cmpIsN neg) A) := by
  intro F ρ env st v st' σ H Q W E h c
  obtain ⟨x, st1, h1, h⟩ := mb_eq h
  cases h
  have fin : ∀ F1 ρ1 w1 H1, Pst X.K F ρ st H F1 ρ1 st' H1 → RelP X.K F1 ρ1 st'.nxt x w1 → Q (.bl (decide (w1 = .non) != neg)) H1 := fun F1 ρ1 w1 H1 p1 r1 => by
    rw [isNon_ok r1]
    exact (Ct.of p1 c).here p1.wld (rel_bl _)
  cases neg with
  | false =>
    refine wE_of (pe_cmp (pc_isN pe_w) rfl) ?_
    refine ha F ρ env st x st' σ H _ W E h1 fun F1 ρ1 w1 H1 p1 r1 => ?_
    have := fin F1 ρ1 w1 H1 p1 r1
    rw [Bool.bne_false] at this
    exact this
  | true =>
    refine wE_of (pe_cmp (pc_notN pe_w) rfl) ?_
    refine ha F ρ env st x st' σ H _ W E h1 fun F1 ρ1 w1 H1 p1 r1 => ?_
    have := fin F1 ρ1 w1 H1 p1 r1
    rw [Bool.bne_true] at this
    exact this
/-- an expression that gives True or False, as a test -/
theorem tst_val (he : ∀ whole, isTrue e X.env whole = (do let v ← whole; standAt e.pos; holding [v] (truthy v))) {D : DE} (h : SndE X e D) : SndT X e (tVal D) := by
  intro F ρ env st v st' σ H Q W E h0 c
  obtain ⟨z, st3, h0, h3⟩ := mb_eq h0
  refine wT_of (pt_val pe_w he) ?_
  refine h F ρ env st z st3 σ H _ W E h0 fun F3 ρ3 w H3 p3 r3 => ?_
  obtain ⟨rfl, rfl⟩ := asB_eq h3
  exact ⟨_, bl_ok r3, c F3 ρ3 H3 p3⟩
theorem tst_isN {neg : Bool} {j : Nat} {p2 : Pos} (ha : SndE X a A) : SndT X (.Compare a [isOp neg] [.Constant .none j p2] pos) (tVal (dUn (cmpIsN neg) A)) := by
  intro F ρ env st v st' σ H Q W E h0 c
  obtain ⟨z, st3, h0, h3⟩ := mb_eq h0
  obtain ⟨x, st1, h1, h⟩ := mb_eq h0
  cases h
  cases h3
  cases neg with
  | false =>
    refine wT_of (pt_cmp (pc_isN pe_w) rfl) ?_
    refine ha F ρ env st x st' σ H _ W E h1 fun F1 ρ1 w1 H1 p1 r1 => ⟨_, rfl, ?_⟩
    have := c F1 ρ1 H1 p1
    rw [Bool.bne_false] at this
    rw [isNon_ok r1]
    exact this
  | true =>
    refine wT_of (pt_cmp (pc_notN pe_w) rfl) ?_
    refine ha F ρ env st x st' σ H _ W E h1 fun F1 ρ1 w1 H1 p1 r1 => ⟨_, rfl, ?_⟩
    have := c F1 ρ1 H1 p1
    rw [Bool.bne_true] at this
    rw [isNon_ok r1]
    exact this

/-! and, or, not -/
theorem w_and1 {D : DT} (h : SndT X a D) : SndW X (.BoolOp .And [a] pos) D := fun F ρ env st v st' σ H Q W E h0 c => wW_of (pw_and1 pt_w) (h F ρ env st v st' σ H Q W E h0 c)
theorem w_or1 {D : DT} (h : SndT X a D) : SndW X (.BoolOp .Or [a] pos) D := fun F ρ env st v st' σ H Q W E h0 c => wW_of (pw_or1 pt_w) (h F ρ env st v st' σ H Q W E h0 c)
theorem w_and {D D' : DT} {rest : List Expr} (h : SndT X a D) (h' : SndW X (.BoolOp .And (b :: rest) pos) D') : SndW X (.BoolOp .And (a :: b :: rest) pos) (tAnd D D') := fun F ρ env st v st' σ H Q W E h0 c => by
  obtain ⟨x, st1, h1, h2⟩ := mb_eq h0
  refine wW_of (pw_and pt_w pw_w) (h F ρ env st x st1 σ H _ W E h1 fun F1 ρ1 H1 p1 => ?_)
  cases x with
  | true => exact h' F1 ρ1 env st1 v st' σ H1 Q p1.wld (E.step p1) h2 fun F2 ρ2 H2 p2 => c F2 ρ2 H2 (p1.trans p2)
  | false => cases h2; exact c F1 ρ1 H1 p1
theorem w_or {D D' : DT} {rest : List Expr} (h : SndT X a D) (h' : SndW X (.BoolOp .Or (b :: rest) pos) D') : SndW X (.BoolOp .Or (a :: b :: rest) pos) (tOr D D') := fun F ρ env st v st' σ H Q W E h0 c => by
  obtain ⟨x, st1, h1, h2⟩ := mb_eq h0
  refine wW_of (pw_or pt_w pw_w) (h F ρ env st x st1 σ H _ W E h1 fun F1 ρ1 H1 p1 => ?_)
  cases x with
  | false => exact h' F1 ρ1 env st1 v st' σ H1 Q p1.wld (E.step p1) h2 fun F2 ρ2 H2 p2 => c F2 ρ2 H2 (p1.trans p2)
  | true => cases h2; exact c F1 ρ1 H1 p1
theorem SndW.t {D : DT} (h : SndW X e D) : SndT X e D := fun F ρ env st v st' σ H Q W E h0 c => wT_of (PW.pt pw_w) (h F ρ env st v st' σ H Q W E h0 c)
theorem tst_not {D : DT} (h : SndT X a D) : SndT X (.UnaryOp .Not a pos) (tNot D) := fun F ρ env st v st' σ H Q W E h0 c => by
  obtain ⟨x, st1, h1, h2⟩ := mb_eq h0
  cases h2
  exact wT_of (pt_not pt_w) (h F ρ env st x st' σ H _ W E h1 fun F1 ρ1 H1 p1 => c F1 ρ1 H1 p1)
theorem snd_one {op : BoolOp} {D : DE} (h : SndE X a D) : SndE X (.BoolOp op [a] pos) D := fun F ρ env st v st' σ H Q W E h0 c => wE_of (pe_one pe_w) (h F ρ env st v st' σ H Q W E h0 c)
theorem snd_and {rest : List Expr} (h : SndE X a A) (h' : SndE X (.BoolOp .And (b :: rest) pos) B) : SndE X (.BoolOp .And (a :: b :: rest) pos) (dAnd A B) := fun F ρ env st v st' σ H Q W E h0 c => by
  obtain ⟨x, st1, h1, h2⟩ := mb_eq h0
  obtain ⟨k, st2, h3, h2⟩ := mb_eq h2
  obtain ⟨rfl, rfl⟩ := asB_eq h3
  refine wE_of (pe_and pe_w pe_w) (h F ρ env st _ st1 σ H _ W E h1 fun F1 ρ1 w1 H1 p1 r1 => ?_)
  refine ⟨k, bl_ok r1, ?_⟩
  cases k with
  | true => exact h' F1 ρ1 env st1 v st' σ H1 Q p1.wld (E.step p1) h2 (Ct.of p1 c)
  | false => cases h2; exact (Ct.of p1 c).here p1.wld (rel_bl _)
theorem snd_or {rest : List Expr} (h : SndE X a A) (h' : SndE X (.BoolOp .Or (b :: rest) pos) B) : SndE X (.BoolOp .Or (a :: b :: rest) pos) (dOr A B) := fun F ρ env st v st' σ H Q W E h0 c => by
  obtain ⟨x, st1, h1, h2⟩ := mb_eq h0
  obtain ⟨k, st2, h3, h2⟩ := mb_eq h2
  obtain ⟨rfl, rfl⟩ := asB_eq h3
  refine wE_of (pe_or pe_w pe_w) (h F ρ env st _ st1 σ H _ W E h1 fun F1 ρ1 w1 H1 p1 r1 => ?_)
  refine ⟨k, bl_ok r1, ?_⟩
  cases k with
  | false => exact h' F1 ρ1 env st1 v st' σ H1 Q p1.wld (E.step p1) h2 (Ct.of p1 c)
  | true => cases h2; exact (Ct.of p1 c).here p1.wld (rel_bl _)
theorem snd_notV (h : SndE X a A) : SndE X (.UnaryOp .Not a pos) (dUn opNot A) := fun F ρ env st v st' σ H Q W E h0 c => by
  obtain ⟨x, st1, h1, h2⟩ := mb_eq h0
  refine wE_of (pe_not pe_w) (h F ρ env st x st1 σ H _ W E h1 fun F1 ρ1 w1 H1 p1 r1 => ?_)
  unfold opNot at h2
  split at h2
  · cases h2
    exact ⟨_, bl_ok r1, (Ct.of p1 c).here p1.wld (rel_bl _)⟩
  · cases h2

/-! arguments, displays -/
theorem snd_anil : SndA X [] aNil := fun F ρ env st v st' σ H Q W E h c => by
  cases h
  exact wA_of pa_nil (c F ρ _ H (Pst.refl W) .nil)
theorem snd_acons {es : List Expr} {D : DA} (hs : starEach (e :: es) X.env = (false, eval e X.env) :: starEach es X.env) (he : SndE X e A) (hr : SndA X es D) : SndA X (e :: es) (aCons A D) := fun F ρ env st v st' σ H Q W E h c => by
  obtain ⟨x, st1, h1, h⟩ := mb_eq h
  obtain ⟨xs, st2, h2, h⟩ := mb_eq h
  cases h
  refine wA_of (pa_cons pe_w pa_w hs) (he F ρ env st x st1 σ H _ W E h1 fun F1 ρ1 w1 H1 p1 r1 => ?_)
  exact hr F1 ρ1 env st1 xs st' σ H1 _ p1.wld (E.step p1) h2 fun F2 ρ2 w2 H2 p2 r2 => c F2 ρ2 _ H2 (p1.trans p2) (.cons (r1.step p2) r2)
theorem snd_tup {es : List Expr} {D : DA} {k : Nat} (h : SndA X es D) : SndE X (.Tuple es k pos) (dTup D) := fun F ρ env st v st' σ H Q W E h0 c => by
  obtain ⟨xs, st1, h1, h2⟩ := mb_eq h0
  refine wE_of (pe_tup pa_w) (h F ρ env st xs st1 σ H _ W E h1 fun F1 ρ1 w1 H1 p1 r1 => ?_)
  exact mkT_ok p1.wld r1 h2 (Ct.of p1 c)
theorem snd_lst {es : List Expr} {D : DA} {m : Bool} (h : SndA X es D) : SndE X (.List es pos) (dLst m D) := fun F ρ env st v st' σ H Q W E h0 c => by
  obtain ⟨xs, st1, h1, h2⟩ := mb_eq h0
  refine wE_of (pe_lst pa_w) (h F ρ env st xs st1 σ H _ W E h1 fun F1 ρ1 w1 H1 p1 r1 => ?_)
  exact mkL_ok p1.wld r1 h2 (Ct.of p1 c)
theorem snd_ix (hix : PlainIx b) (ha : SndE X a A) (hb : SndE X b B) {f : PV → PV → M PV} (hf : SndIx X f) : SndE X (.Subscript a b pos) (dBin f A B) := by
  intro F ρ env st v st' σ H Q W E h c
  refine wE_of (pe_ix ix_w pe_w pe_w hix) ?_
  exact two ha hb W E h fun F' ρ' x y w1 w2 st2 H' p r1 r2 h => hf F' ρ' st2 x y w1 w2 v st' H' Q p.wld r1 r2 h (Ct.of p c)
end
end DL

/-! DLD: dicts whose keys are tuples. -/
namespace DL
open PySem PySem.Spec PyProof.Rows L2

/-! ### hashes of keys without texts are the same in every world -/
mutual
theorem hash_w {w w' : World} : ∀ {k : NestedKey}, noText k = true → k.hash w = k.hash w'
  | .none, _ => by rw [NestedKey.hash, NestedKey.hash]
  | .num _, _ => by rw [NestedKey.hash, NestedKey.hash]
  | .text _, h => by rw [noText] at h; cases h
  | .tup ks, h => by rw [noText] at h; rw [NestedKey.hash, NestedKey.hash, hashes_w h]
theorem hashes_w {w w' : World} : ∀ {ks : List NestedKey}, noTexts ks = true → NestedKey.hashes w ks = NestedKey.hashes w' ks
  | [], _ => by rw [NestedKey.hashes, NestedKey.hashes]
  | k :: r, h => by
    rw [noTexts, Bool.and_eq_true] at h
    rw [NestedKey.hashes, NestedKey.hashes, hash_w h.1, hashes_w h.2]
end
section
variable {X : Cx} {pins : List (Addr × Obj)} {σ : L2.St} {s : Shared} {F : Hp} {ρ : Nat → Addr} {n : Nat} {st st' : Sto} {H : Hp} {x v k : PV} {w : V} {ks vs : List PV} {kws vws : List V} {Q : VK}
/-- a dict lies somewhere -/
theorem dct_ok (W : Wld X.K F ρ st H) (r : RelP X.K F ρ st.nxt x w) (h : dctOf st x = some (ks, vs)) : ∃ a ob kws vws, w = .ref a ∧ H a = some (dO a ob) ∧ RelPs X.K F ρ st.nxt ks kws ∧ RelPs X.K F ρ st.nxt vs vws ∧ DObj a ks kws vws ob := by
  unfold dctOf at h
  split at h
  · cases h
    rw [RelP] at r
    obtain ⟨a, ob, kws, vws, e, q, r1, r2, d⟩ := r
    exact ⟨a, ob, kws, vws, e, W.sub _ _ q, r1, r2, d⟩
  · rename_i l
    rw [RelP] at r
    obtain ⟨q, rfl⟩ := r
    split at h
    · rename_i hl
      cases h
      obtain ⟨_, ob, kws, vws, e, r1, r2, d⟩ := W.cell l _ hl
      exact ⟨_, ob, kws, vws, rfl, e, r1, r2, d⟩
    · cases h
  · cases h
theorem dO_at {a : Addr} {ob : Obj} (I : Inv X pins σ H s) (h : H a = some (dO a ob)) : s.heap.get? a = some ob := (I.hok a _ h).1
theorem dO_ok {P : Program} {w : World} {H : Hp} {h : Heap} {a : Addr} {ob : Obj} (e : h.get? a = some ob) : ObjOk P w H h a (dO a ob) := ⟨e, ⟨_, e⟩, fun h1 h2 e1 k => k _ e1⟩
mutual
/-- a key's value is that key to the library -/
theorem nested_ok (I : Inv X pins σ H s) (sub : Sub F H) : ∀ {k : PV} {nk : NestedKey} {w : V} {u : Value}, NK k = some nk → RelP X.K F ρ n k w → RelV w u → NestedIs s.heap nk u
  | .int i, _, _, _, e, r, ru => by
    rw [NK] at e; cases e
    rw [RelP] at r; subst r
    obtain ⟨t, rfl⟩ := ru
    exact .int i t
  | .non, _, _, _, e, r, ru => by
    rw [NK] at e; cases e
    rw [RelP] at r; subst r
    cases ru
    exact .none
  | .str x, _, _, _, e, r, ru => by
    rw [NK] at e; cases e
    rw [RelP] at r; subst r
    obtain ⟨t, rfl⟩ := ru
    exact .text x t
  | .tup xs, _, _, _, e, r, ru => by
    rw [NK] at e
    cases q : NKs xs with
    | none => rw [q] at e; cases e
    | some nks =>
      rw [q] at e; cases e
      rw [RelP] at r
      obtain ⟨a, ws, rfl, t, r⟩ := r
      cases ru
      obtain ⟨its, rv, ⟨o, h1, h2, m, h3⟩, _⟩ := I.tuple (sub.sqT t)
      exact .tup h1 h2 h3 (nesteds_ok I sub q r rv)
  | .bl _, _, _, _, e, _, _ => by rw [NK] at e; cases e
  | .lst _, _, _, _, e, _, _ => by rw [NK] at e; cases e
  | .ro _, _, _, _, e, _, _ => by rw [NK] at e; cases e
  | .dct _ _, _, _, _, e, _, _ => by rw [NK] at e; cases e
  | .loc _, _, _, _, e, _, _ => by rw [NK] at e; cases e
theorem nesteds_ok (I : Inv X pins σ H s) (sub : Sub F H) : ∀ {xs : List PV} {nks : List NestedKey} {ws : List V} {us : List Value}, NKs xs = some nks → RelPs X.K F ρ n xs ws → Vals ws us → NestedAll s.heap nks us
  | [], _, _, _, e, r, ru => by
    rw [NKs] at e; cases e
    rw [r.inv0] at ru
    cases ru
    exact .nil
  | x :: xs, _, _, _, e, r, ru => by
    rw [NKs] at e
    cases q : NK x with
    | none => rw [q] at e; cases e
    | some nk =>
      cases q2 : NKs xs with
      | none => rw [q, q2] at e; cases e
      | some nks =>
        rw [q, q2] at e; cases e
        obtain ⟨w, ws, rfl, r1, r2⟩ := r.inv
        cases ru with
        | cons h t => exact .cons (nested_ok I sub q r1 h) (nesteds_ok I sub q2 r2 t)
end
/-- the entries as the library tells them -/
theorem ents_ok {P : Program} {wd : World} (I : Inv X pins σ H s) (sub : Sub F H) : ∀ {ks : List PV} {kws vws : List V} {es : List DictEntry}, EsR ks kws vws es → RelPs X.K F ρ n ks kws →
    ∃ xs : List (NestedKey × Addr × Value), es = xs.map (entryOfKey (nestedKind P wd)) ∧ (∀ x ∈ xs, (nestedKind P wd).is s.heap x.1 x.2.1) ∧ ks.map NK = xs.map (fun x => some x.1) ∧ Vals vws (xs.map (·.2.2)) ∧ xs.length = ks.length
  | [], _, _, _, h, _ => by
    obtain ⟨_, rfl, rfl⟩ := h
    exact ⟨[], rfl, fun x (z : x ∈ []) => (by cases z), rfl, Paired.nil, rfl⟩
  | k :: ks, _, _, _, h, r => by
    obtain ⟨a, as, b, bs, e, es, rfl, rfl, rfl, ⟨nk, h1, h2, h3⟩, h4, h5, h⟩ := h
    obtain ⟨w, ws, e0, r1, r2⟩ := r.inv
    cases e0
    obtain ⟨xs, x1, x2, x3, x4, x5⟩ := ents_ok I sub h r2
    obtain ⟨nk', g1, g2, g3⟩ := isTK_nk h2
    rw [h1] at g1; cases g1
    have hn := nested_ok I sub h1 r1 h4
    obtain ⟨c, hc⟩ : ∃ c, e.key = .ref c := by
      cases k with
      | tup ys =>
        rw [RelP] at r1
        obtain ⟨c, _, rfl, _⟩ := r1
        exact ⟨c, h4⟩
      | _ => cases h2
    rw [hc] at hn
    refine ⟨(nk, c, e.val) :: xs, ?_, fun x z => ?_, ?_, .cons h5 x4, by rw [List.length_cons, List.length_cons, x5]⟩
    · rw [List.map_cons, ← x1]
      congr 1
      show e = ⟨nk.hash wd, .ref c, e.val⟩
      rw [← h3 wd, ← hc]
    · rcases List.mem_cons.mp z with rfl | z
      · exact ⟨hn, g3⟩
      · exact x2 x z
    · rw [List.map_cons, List.map_cons, h1, x3]
theorem nodup_of_map {α β : Type} {f : α → β} : ∀ {l : List α}, (l.map f).Nodup → l.Nodup
  | [], _ => .nil
  | x :: l, h => by
    rw [List.map_cons, List.nodup_cons] at h
    rw [List.nodup_cons]
    exact ⟨fun z => h.1 (List.mem_map.mpr ⟨x, z, rfl⟩), nodup_of_map h.2⟩
theorem keyed_ok {a : Addr} {ob : Obj} (P : Program) (wd : World) (I : Inv X pins σ H s) (sub : Sub F H) (hH : H a = some (dO a ob)) (d : DObj a ks kws vws ob) (r : RelPs X.K F ρ n ks kws) :
    ∃ xs : List (NestedKey × Addr × Value), s.heap.DictOfH (nestedKind P wd) a xs ∧ ks.map NK = xs.map (fun x => some x.1) ∧ Vals vws (xs.map (·.2.2)) ∧ xs.length = ks.length := by
  obtain ⟨hx, ⟨es, ep, hd, he⟩, _, _, nd⟩ := d
  obtain ⟨xs, x1, x2, x3, x4, x5⟩ := ents_ok (P := P) (wd := wd) I sub he r
  refine ⟨xs, ⟨ob, es, ep, dO_at I hH, hx, hd, x1, x2, ?_⟩, x3, x4, x5⟩
  rw [x3] at nd
  have : xs.map (fun x => some x.1) = (xs.map (·.1)).map some := by rw [List.map_map]; rfl
  rw [this] at nd
  exact nodup_of_map nd
theorem keyEq_iff {a b : PV} {x y : NestedKey} (ha : NK a = some x) (hb : NK b = some y) : keyEq a b = decide (x = y) := by
  unfold keyEq
  rw [ha, hb]
/-- looking up -/
theorem look_ok {P : Program} {wd : World} {k : PV} {nk : NestedKey} (hk : NK k = some nk) : ∀ {ks vs : List PV} {vws : List V} {xs : List (NestedKey × Addr × Value)}, ks.map NK = xs.map (fun x => some x.1) → RelPs X.K F ρ n vs vws → Vals vws (xs.map (·.2.2)) → vs.length = ks.length →
    (dlook ks vs k = none ∧ atKey xs nk = none) ∨ ∃ v w p, dlook ks vs k = some v ∧ atKey xs nk = some p ∧ RelP X.K F ρ n v w ∧ RelV w p.2
  | [], vs, _, xs, h1, _, _, _ => by
    cases xs with
    | nil => exact .inl ⟨rfl, rfl⟩
    | cons _ _ => cases h1
  | k' :: ks, [], _, _, _, _, _, hl => by cases hl
  | k' :: ks, v :: vs, vws, [], h1, _, _, _ => by cases h1
  | k' :: ks, v :: vs, vws, x :: xs, h1, r, h2, hl => by
    rw [List.map_cons, List.map_cons] at h1
    injection h1 with h1 h3
    obtain ⟨w, ws, rfl, r1, r2⟩ := r.inv
    rw [List.map_cons] at h2
    cases h2 with
    | cons hv h2 =>
      by_cases e : x.1 = nk
      · refine .inr ⟨v, w, x.2, ?_, ?_, r1, hv⟩
        · show (if keyEq k' k then some v else dlook ks vs k) = some v
          rw [keyEq_iff h1 hk, decide_eq_true e, if_pos rfl]
        · simp [atKey, List.find?_cons, e]
      · have e1 : dlook (k' :: ks) (v :: vs) k = dlook ks vs k := by
          show (if keyEq k' k then some v else dlook ks vs k) = _
          rw [keyEq_iff h1 hk, decide_eq_false e, if_neg (by decide)]
        have e2 : atKey (x :: xs) nk = atKey xs nk := by simp [atKey, List.find?_cons, e]
        rw [e1, e2]
        exact look_ok (P := P) (wd := wd) hk h3 r2 h2 (by rw [List.length_cons, List.length_cons] at hl; omega)
theorem goodK_iff {ks : List PV} {k : PV} : goodK ks k = true ↔ (∀ x ∈ ks, isTK x = true) ∧ isTK k = true := by
  unfold goodK
  rw [Bool.and_eq_true, List.all_eq_true]
/-- a key that is asked for -/
theorem key_ok (P : Program) (wd : World) (I : Inv X pins σ H s) (sub : Sub F H) {u : Value} (h : isTK k = true) (r : RelP X.K F ρ n k w) (ru : RelV w u) : ∃ nk b, NK k = some nk ∧ u = .ref b ∧ (nestedKind P wd).is s.heap nk b := by
  obtain ⟨nk, g1, g2, g3⟩ := isTK_nk h
  have hn := nested_ok I sub g1 r ru
  cases k with
  | tup ys =>
    rw [RelP] at r
    obtain ⟨c, _, rfl, _⟩ := r
    cases ru
    exact ⟨nk, c, g1, rfl, hn, g3⟩
  | _ => cases h
theorem dobj_len {a : Addr} {ob : Obj} (d : DObj a ks kws vws ob) (r : RelPs X.K F ρ n ks kws) (r2 : RelPs X.K F ρ n vs vws) : vs.length = ks.length := by
  obtain ⟨_, ⟨es, ep, _, he⟩, _⟩ := d
  have : ∀ {ks : List PV} {kws vws : List V} {es : List DictEntry}, EsR ks kws vws es → vws.length = ks.length := by
    intro ks
    induction ks with
    | nil => intro _ _ _ h; obtain ⟨_, rfl, _⟩ := h; rfl
    | cons k ks ih =>
      intro _ _ _ h
      obtain ⟨a, as, b, bs, e, r, _, rfl, _, _, _, _, h⟩ := h
      rw [List.length_cons, List.length_cons, ih h]
  rw [r2.length, this he]
/-- d[k] -/
theorem ixD_ok (hu : X.A.units + 65 < cLine) {y u : PV} {w1 w2 : V} (W : Wld X.K F ρ st H) (r1 : RelP X.K F ρ st.nxt x w1) (r2 : RelP X.K F ρ st.nxt y w2) (hd : dctOf st x = some (ks, vs)) (hk : goodK ks y = true) (hl : dlook ks vs y = some u) (c : Ct X.K F ρ st H u st Q) : wIx X w1 w2 H Q := by
  obtain ⟨a, ob, kws, vws, rfl, hH, rk, rv, d⟩ := dct_ok W r1 hd
  intro value slice pins s σ ov uv I ro ru hs
  cases ro
  obtain ⟨xs, dk, h1, h2, _⟩ := keyed_ok X.prog X.w I W.sub hH d rk
  obtain ⟨nk, b, g1, rfl, g2⟩ := key_ok X.prog X.w I W.sub (goodK_iff.mp hk).2 r2 ru
  rcases look_ok (P := X.prog) (wd := X.w) g1 h1 rv h2 (dobj_len d rk rv) with ⟨e, _⟩ | ⟨v', w', p, e1, e2, rr, rp⟩
  · rw [e] at hl; cases hl
  · rw [e1] at hl; cases hl
    exact tail_any dk.typeIs slot_dict_getitem.lookup (wpAny_getItem_heap (knd := nestedKind X.prog X.w) (show X.A.in1.units + 8 < cLine from (by show X.A.units + 1 + 8 < cLine; omega)) g2 dk e2 ⟨w', H, I.tok _, rp, c.here W rr⟩) hs
/-- k in d, k not in d -/
theorem inD_ok (hu : X.A.units + 65 < cLine) (neg : Bool) {y : PV} {w1 w2 : V} (W : Wld X.K F ρ st H) (r1 : RelP X.K F ρ st.nxt y w1) (r2 : RelP X.K F ρ st.nxt x w2) (hd : dctOf st x = some (ks, vs)) (hk : goodK ks y = true) (c : Ct X.K F ρ st H (.bl ((dlook ks vs y).isSome != neg)) st Q) : wR X (compareOp (if neg then .NotIn else .In)) w1 w2 H Q := by
  obtain ⟨a, ob, kws, vws, rfl, hH, rk, rv, d⟩ := dct_ok W r2 hd
  intro pins s σ uv ov I ru ro
  cases ro
  obtain ⟨xs, dk, h1, h2, _⟩ := keyed_ok X.prog X.w I W.sub hH d rk
  obtain ⟨nk, b, g1, rfl, g2⟩ := key_ok X.prog X.w I W.sub (goodK_iff.mp hk).2 r1 ru
  have e : (dlook ks vs y).isSome = (atKey xs nk).isSome := by
    rcases look_ok (P := X.prog) (wd := X.w) g1 h1 rv h2 (dobj_len d rk rv) with ⟨e1, e2⟩ | ⟨_, _, _, e1, e2, _, _⟩
    · rw [e1, e2]; rfl
    · rw [e1, e2]; rfl
  have hr : (nestedKind X.prog X.w).room X.A.in1 := by show X.A.units + 1 + 8 < cLine; omega
  cases neg with
  | true =>
    refine wpAny_notIn_heap (knd := nestedKind X.prog X.w) hr g2 d.2.2.1 dk ⟨.bl (!(atKey xs nk).isSome), H, I.tok _, rfl, ?_⟩
    rw [← e]
    have := c.here W (rel_bl (K := X.K) (F := F) (ρ := ρ) (n := st.nxt) ((dlook ks vs y).isSome != true))
    cases hh : (dlook ks vs y).isSome <;> rw [hh] at this <;> exact this
  | false =>
    refine wpAny_in_heap (knd := nestedKind X.prog X.w) hr g2 d.2.2.1 dk ⟨.bl (atKey xs nk).isSome, H, I.tok _, rfl, ?_⟩
    rw [← e]
    have := c.here W (rel_bl (K := X.K) (F := F) (ρ := ρ) (n := st.nxt) ((dlook ks vs y).isSome != false))
    cases hh : (dlook ks vs y).isSome <;> rw [hh] at this <;> exact this
/-- len(d) -/
theorem lenD_ok {w1 : V} (W : Wld X.K F ρ st H) (r1 : RelP X.K F ρ st.nxt x w1) (hd : dctOf st x = some (ks, vs)) (c : Ct X.K F ρ st H (.int ks.length) st Q) : wC X (.builtin "len") [w1] H Q := by
  obtain ⟨a, ob, kws, vws, rfl, hH, rk, rv, d⟩ := dct_ok W r1 hd
  intro pins s σ us I r
  obtain ⟨u, rfl, ru⟩ := vals1 r
  cases ru
  obtain ⟨xs, dk, h1, h2, h3⟩ := keyed_ok X.prog X.w I W.sub hH d rk
  have hz := d.2.2.2.1
  rw [sizeLine_eq] at hz
  refine call_len_dictH (knd := nestedKind X.prog X.w) d.2.2.1 dk (by rw [h3]; omega) ⟨.int ks.length, H, I.tok _, ⟨_, by rw [h3]⟩, c.here W (rel_int _)⟩

/-! d[k] = v -/
theorem storedH_eq {xs : List (NestedKey × Addr × Value)} {x : NestedKey × Addr × Value} {k : NestedKey} {a : Addr} {v : Value} (hn : ((x :: xs).map (·.1)).Nodup) (e : x.1 = k) : storedH (x :: xs) k a v = (x.1, x.2.1, v) :: xs := by
  rw [List.map_cons, List.nodup_cons] at hn
  have h1 : atKey (x :: xs) k = some x.2 := by simp [atKey, List.find?_cons, e]
  rw [storedH_old h1, List.map_cons]
  congr 1
  · show (if x.1 = k then (x.1, x.2.1, v) else x) = _
    rw [if_pos e]
  · exact map_putAt_of_not_mem xs k v (e ▸ hn.1)
theorem storedH_ne {xs : List (NestedKey × Addr × Value)} {x : NestedKey × Addr × Value} {k : NestedKey} {a : Addr} {v : Value} (e : ¬ x.1 = k) : storedH (x :: xs) k a v = x :: storedH xs k a v := by
  have h1 : atKey (x :: xs) k = atKey xs k := by simp [atKey, List.find?_cons, e]
  unfold storedH
  rw [h1]
  split
  · rw [List.map_cons]
    congr 1
    show (if x.1 = k then (x.1, x.2.1, v) else x) = _
    rw [if_neg e]
  · rfl
theorem dput_len : ∀ {ks vs : List PV} {k v : PV}, vs.length = ks.length → (dput ks vs k v).1.length ≤ ks.length + 1 ∧ (dput ks vs k v).2.length = (dput ks vs k v).1.length
  | [], [], _, _, _ => ⟨Nat.le_refl _, rfl⟩
  | [], _ :: _, _, _, h => by cases h
  | _ :: _, [], _, _, h => by cases h
  | k' :: ks, v' :: vs, k, v, h => by
    have h : vs.length = ks.length := by rw [List.length_cons, List.length_cons] at h; omega
    obtain ⟨h1, h2⟩ := dput_len (k := k) (v := v) h
    show (if keyEq k' k then (k' :: ks, v :: vs) else (k' :: (dput ks vs k v).1, v' :: (dput ks vs k v).2)).1.length ≤ _ ∧ (if keyEq k' k then (k' :: ks, v :: vs) else (k' :: (dput ks vs k v).1, v' :: (dput ks vs k v).2)).2.length = (if keyEq k' k then (k' :: ks, v :: vs) else (k' :: (dput ks vs k v).1, v' :: (dput ks vs k v).2)).1.length
    cases keyEq k' k
    · rw [if_neg (by decide)]
      show (dput ks vs k v).1.length + 1 ≤ ks.length + 1 + 1 ∧ (dput ks vs k v).2.length + 1 = (dput ks vs k v).1.length + 1
      omega
    · rw [if_pos rfl]
      show ks.length + 1 ≤ ks.length + 1 + 1 ∧ vs.length + 1 = ks.length + 1
      omega
theorem dput_lb {m : Nat} : ∀ {ks vs : List PV} {k v : PV}, lbs m ks = true → lbs m vs = true → k.lb m = true → v.lb m = true → lbs m (dput ks vs k v).1 = true ∧ lbs m (dput ks vs k v).2 = true
  | [], vs, k, v, _, _, h3, h4 => by
    show lbs m [k] = true ∧ lbs m [v] = true
    rw [lbs, lbs, lbs, lbs, h3, h4]; exact ⟨rfl, rfl⟩
  | _ :: _, [], k, v, _, _, h3, h4 => by
    show lbs m [k] = true ∧ lbs m [v] = true
    rw [lbs, lbs, lbs, lbs, h3, h4]; exact ⟨rfl, rfl⟩
  | k' :: ks, v' :: vs, k, v, h1, h2, h3, h4 => by
    rw [lbs, Bool.and_eq_true] at h1 h2
    obtain ⟨g1, g2⟩ := dput_lb h1.2 h2.2 h3 h4
    show lbs m (if keyEq k' k then (k' :: ks, v :: vs) else (k' :: (dput ks vs k v).1, v' :: (dput ks vs k v).2)).1 = true ∧ lbs m (if keyEq k' k then (k' :: ks, v :: vs) else (k' :: (dput ks vs k v).1, v' :: (dput ks vs k v).2)).2 = true
    cases keyEq k' k
    · rw [if_neg (by decide)]
      show lbs m (_ :: _) = true ∧ lbs m (_ :: _) = true
      rw [lbs, lbs, h1.1, h2.1, g1, g2]; exact ⟨rfl, rfl⟩
    · rw [if_pos rfl]
      show lbs m (_ :: _) = true ∧ lbs m (_ :: _) = true
      rw [lbs, lbs, h1.1, h1.2, h2.2, h4]; exact ⟨rfl, rfl⟩
theorem put_ok {P : Program} {wd : World} {k v : PV} {nk : NestedKey} {b : Addr} {wv : V} {u : Value} (hk : isTK k = true) (hnk : NK k = some nk) (rk : RelP X.K F ρ n k (.ref b)) (rv : RelP X.K F ρ n v wv) (ru : RelV wv u) :
    ∀ {ks vs : List PV} {kws vws : List V} {es : List DictEntry} {xs : List (NestedKey × Addr × Value)}, EsR ks kws vws es → es = xs.map (entryOfKey (nestedKind P wd)) → ks.map NK = xs.map (fun x => some x.1) → (xs.map (·.1)).Nodup → RelPs X.K F ρ n ks kws → RelPs X.K F ρ n vs vws →
    ∃ kws' vws', EsR (dput ks vs k v).1 kws' vws' ((storedH xs nk b u).map (entryOfKey (nestedKind P wd))) ∧ (dput ks vs k v).1.map NK = (storedH xs nk b u).map (fun x => some x.1) ∧ RelPs X.K F ρ n (dput ks vs k v).1 kws' ∧ RelPs X.K F ρ n (dput ks vs k v).2 vws'
  | [], vs, _, _, _, xs, h, he, h1, nd, r1, r2 => by
    obtain ⟨rfl, rfl, rfl⟩ := h
    cases xs with
    | cons _ _ => cases h1
    | nil =>
      have e : dput [] vs k v = ([k], [v]) := by cases vs <;> rfl
      rw [e]
      obtain ⟨nk', g1, g2, g3⟩ := isTK_nk hk
      rw [hnk] at g1; cases g1
      exact ⟨[.ref b], [wv], ⟨_, _, _, _, _, _, rfl, rfl, rfl, ⟨nk, hnk, hk, fun w => hash_w g2⟩, rfl, ru, rfl, rfl, rfl⟩, by rw [List.map_cons, hnk]; rfl, .cons rk .nil, .cons rv .nil⟩
  | k' :: ks, vs, _, _, _, [], h, he, h1, nd, r1, r2 => by cases h1
  | k' :: ks, [], _, _, _, x :: xs, h, he, h1, nd, r1, r2 => by
    obtain ⟨a, as, b', bs, e, es, _, rfl, _, _⟩ := h
    exact absurd r2.inv0 (by simp)
  | k' :: ks, v' :: vs, _, _, _, x :: xs, h, he, h1, nd, r1, r2 => by
    obtain ⟨a, as, b', bs, e, es, rfl, rfl, rfl, hx, h4, h5, h⟩ := h
    obtain ⟨w, ws, e0, q1, q2⟩ := r1.inv
    cases e0
    obtain ⟨w2, ws2, e0, q3, q4⟩ := r2.inv
    cases e0
    rw [List.map_cons, List.map_cons] at h1
    injection h1 with h1 h3
    rw [List.map_cons] at he
    injection he with he he2
    by_cases ek : x.1 = nk
    · have e1 : dput (k' :: ks) (v' :: vs) k v = (k' :: ks, v :: vs) := by
        show (if keyEq k' k then (k' :: ks, v :: vs) else _) = _
        rw [keyEq_iff h1 hnk, decide_eq_true ek, if_pos rfl]
      rw [e1, storedH_eq nd ek]
      refine ⟨a :: as, wv :: bs, ⟨_, _, _, _, _, _, rfl, rfl, rfl, ?_, ?_, ru, ?_⟩, ?_, .cons q1 q2, .cons rv q4⟩
      · obtain ⟨nk', y1, y2, y3⟩ := hx
        refine ⟨nk', y1, y2, fun w => ?_⟩
        rw [← y3 w, he]; rfl
      · rw [he] at h4; exact h4
      · rw [← he2]; exact h
      · rw [List.map_cons, List.map_cons, h1, h3]
    · have e1 : dput (k' :: ks) (v' :: vs) k v = (k' :: (dput ks vs k v).1, v' :: (dput ks vs k v).2) := by
        show (if keyEq k' k then (k' :: ks, v :: vs) else _) = _
        rw [keyEq_iff h1 hnk, decide_eq_false ek, if_neg (by decide)]
      rw [e1, storedH_ne ek]
      rw [List.map_cons, List.nodup_cons] at nd
      obtain ⟨kws', vws', z1, z2, z3, z4⟩ := put_ok hk hnk rk rv ru h he2 h3 nd.2 q2 q4
      refine ⟨a :: kws', b' :: vws', ⟨_, _, _, _, _, _, rfl, rfl, by rw [List.map_cons, ← he], hx, h4, h5, z1⟩, ?_, .cons q1 z3, .cons q3 z4⟩
      rw [List.map_cons, List.map_cons, h1, z2]
theorem nodup_some {α : Type} {l : List α} (h : l.Nodup) : (l.map some).Nodup := by
  rw [List.nodup_iff_pairwise_ne] at h ⊢
  rw [List.pairwise_map]
  exact h.imp fun {a b} q e => q (Option.some.inj e)
theorem setD_ok (hu : X.A.units + 65 < cLine) {l : Nat} {y : PV} {w2 w3 : V} {Qs : Hp → Prop} (W : Wld X.K F ρ st H) (hl : st.cs l = some (.dct ks vs)) (r2 : RelP X.K F ρ st.nxt y w2) (r3 : RelP X.K F ρ st.nxt v w3) (hk : goodK ks y = true) (hlb : v.lb st.nxt = true) (hz : ks.length < sizeLine)
    (c : ∀ F' ρ' H', Pst X.K F ρ st H F' ρ' (st.set l (.dct (dput ks vs y v).1 (dput ks vs y v).2)) H' → Qs H') : wSet X (.ref (ρ l)) w2 w3 H Qs := by
  obtain ⟨fl, ob, kws, vws, hH, rk, rv, d⟩ := W.cell l _ hl
  intro pins s σ ov uv zv I ro ru rz
  cases ro
  obtain ⟨hx, ⟨es, ep, hdat, he⟩, hs, hsz, nd⟩ := id d
  obtain ⟨xs, x1, x2, x3, x4, x5⟩ := ents_ok (P := X.prog) (wd := X.w) I W.sub he rk
  have ndx : (xs.map (·.1)).Nodup := by
    rw [x3] at nd
    have : xs.map (fun x => some x.1) = (xs.map (·.1)).map some := by rw [List.map_map]; rfl
    rw [this] at nd
    exact nodup_of_map nd
  have dk : s.heap.DictOfH (nestedKind X.prog X.w) (ρ l) xs := ⟨ob, es, ep, dO_at I hH, hx, hdat, x1, x2, ndx⟩
  obtain ⟨nk, b, g1, rfl, g2⟩ := key_ok X.prog X.w I W.sub (goodK_iff.mp hk).2 r2 ru
  have r2' : RelP X.K F ρ st.nxt y (.ref b) := by
    have hy := (goodK_iff.mp hk).2
    cases y with
    | tup ys =>
      rw [RelP] at r2 ⊢
      obtain ⟨c', vs', rfl, t, r⟩ := r2
      cases ru
      exact ⟨_, vs', rfl, t, r⟩
    | _ => cases hy
  have hlen : vs.length = ks.length := dobj_len d rk rv
  refine wpAny_setItem_heap (knd := nestedKind X.prog X.w) (show X.A.in1.units + 8 < cLine from (by show X.A.units + 1 + 8 < cLine; omega)) g2 dk (fun h' dk' hs' => ?_) (hsz := by rw [x5]; omega)
  obtain ⟨ob', es', ep', hg', hx', hd', he', his', nd'⟩ := dk'
  obtain ⟨kws', vws', z1, z2, z3, z4⟩ := put_ok (P := X.prog) (wd := X.w) (b := b) (u := zv) (goodK_iff.mp hk).2 g1 r2' r3 rz he x1 x3 ndx rk rv
  have dn : DObj (ρ l) (dput ks vs y v).1 kws' vws' ob' := by
    refine ⟨hx', ⟨es', ep', hd', by rw [he']; exact z1⟩, hs, Nat.le_trans (dput_len hlen).1 hz, ?_⟩
    rw [z2]
    have : (storedH xs nk b zv).map (fun x => some x.1) = ((storedH xs nk b zv).map (·.1)).map some := by rw [List.map_map]; rfl
    rw [this]
    exact nodup_some nd'
  have lbk : (Cell.dct (dput ks vs y v).1 (dput ks vs y v).2).lb st.nxt = true := by
    have hw := st.wc l _ hl
    have hw : (lbs st.nxt ks && lbs st.nxt vs) = true := hw
    rw [Bool.and_eq_true] at hw
    have hyl : y.lb st.nxt = true := PV.lb_mono (Nat.zero_le _) (nk_lb g1)
    obtain ⟨q1, q2⟩ := dput_lb (k := y) (v := v) hw.1 hw.2 hyl hlb
    show (lbs st.nxt _ && lbs st.nxt _) = true
    rw [q1, q2]; rfl
  have p := W.set hl lbk (o := dO (ρ l) ob') ⟨ob', kws', vws', rfl, z3, z4, dn⟩
  refine ⟨upd H (ρ l) (dO (ρ l) ob'), ?_, c _ _ _ p⟩
  exact d_write I (by rw [hH]; exact True.intro) hs' ⟨_, hg'⟩ (dO_ok hg')
/-- {} -/
theorem newD_ok {m : Bool} (W : Wld X.K F ρ st H) (h : mkD m [] [] st = some (v, st')) (c : Ct X.K F ρ st H v st' Q) (I : Inv X pins σ H s) : ∃ H', Inv X pins σ H' { s with heap := s.heap.push { cls := .type "dict", data := .dict #[] } } ∧ Q (.ref s.heap.objs.size) H' := by
  have hp : H s.heap.objs.size = none := I.hok.fresh (Nat.le_refl _)
  have hs : (s.heap.objs.size == sysModules) = false := by
    exact beq_eq_false_iff_ne.mpr (Nat.ne_of_gt I.big)
  have dn : DObj s.heap.objs.size [] [] [] { cls := .type "dict", data := .dict #[] } := ⟨⟨rfl, rfl, rfl⟩, ⟨#[], 0, rfl, rfl, rfl, rfl⟩, hs, Nat.zero_le _, .nil⟩
  refine ⟨upd H s.heap.objs.size (dO s.heap.objs.size { cls := .type "dict", data := .dict #[] }), I.laid (t' := s.toks) (fun _ _ q => Heap.get?_push_of_some _ q) (Nat.le_refl _) (dO_ok (Heap.get?_push_size _ rfl)), ?_⟩
  unfold mkD at h
  split at h
  · split at h
    · cases h
      refine c _ _ _ _ (W.alloc (c := .dct [] []) (o := dO s.heap.objs.size { cls := .type "dict", data := .dict #[] }) hp (by rw [Cell.lb, lbs]; rfl) ⟨_, [], [], rfl, .nil, .nil, dn⟩) ?_
      rw [RelP]
      exact ⟨by rw [Sto.alloc_nxt]; omega, by rw [if_pos rfl]⟩
    · cases h
  · cases h
    refine c _ _ _ _ (W.new (o := dO s.heap.objs.size { cls := .type "dict", data := .dict #[] }) hp) ?_
    rw [RelP]
    exact ⟨_, _, [], [], rfl, upd_same, .nil, .nil, dn⟩
theorem snd_dct0 {m : Bool} {pos : Pos} : SndE X (.Dict [] [] pos) (dDct0 m) := by
  intro F ρ env st v st' σ H Q W E h c
  intro pins s I
  refine wpAny_Dict_empty ?_
  obtain ⟨H', I', q⟩ := newD_ok W h c I
  exact ⟨.ref s.heap.objs.size, H', I', rfl, q⟩
/-- d.get(k, v) -/
theorem snd_get2 {o e f : Expr} {O K' V' : DE} {apos cpos : Pos} (hu : X.A.units + 65 < cLine) (ho : SndE X o O) (he : SndE X e K') (hf : SndE X f V') (m : M2 X o "get" apos e f cpos) : SndE X (.Call (.Attribute o "get" apos) [e, f] [] cpos) (dGet2 O K' V') := by
  intro F ρ env st v st' σ H Q W E h c
  unfold dGet2 at h
  obtain ⟨x, st1, h1, h⟩ := mb_eq h
  cases hd : dctOf st1 x with
  | none => rw [hd] at h; cases h
  | some kv =>
    rw [hd] at h
    obtain ⟨y, st2, h2, h⟩ := mb_eq h
    obtain ⟨z, st3, h3, h⟩ := mb_eq h
    cases hd3 : dctOf st3 x with
    | none => rw [hd3] at h; cases h
    | some kv3 =>
      obtain ⟨ks3, vs3⟩ := kv3
      rw [hd3] at h
      have h : (if goodK ks3 y then some ((dlook ks3 vs3 y).getD z, st3) else none) = some (v, st') := h
      split at h
      · rename_i hg
        cases h
        intro pins s I
        refine wpAny_Call_method m.base m.few m.line PySem.F.plainAttrs_dict PySem.F.slot_dict_get PySem.F.type_dict_get ?_
        have q1 := ho F ρ env st x st1 σ H (fun w1 H1 => ∃ F1 ρ1, Pst X.K F ρ st H F1 ρ1 st1 H1 ∧ RelP X.K F1 ρ1 st1.nxt x w1) W E h1 fun F1 ρ1 w1 H1 p1 r1 => ⟨F1, ρ1, p1, r1⟩
        refine thn (q1 pins s I) fun u s1 ⟨w1, H1, I1, rx, F1, ρ1, p1, r1⟩ => ?_
        obtain ⟨a, ob, kws, vws, rfl, hH, rk, rv, d⟩ := dct_ok p1.wld r1 (ks := kv.1) (vs := kv.2) hd
        obtain rfl : u = Value.ref a := rx
        have hg1 := dO_at I1 hH
        refine ⟨⟨ob, hg1, d.1.1⟩, fun b q => by cases q; exact ⟨ob, hg1, d.1.2.1⟩, ?_⟩
        rw [m.trees]
        have q2 := he F1 ρ1 env st1 y st2 σ H1 (fun w2 H2 => ∃ F2 ρ2, Pst X.K F1 ρ1 st1 H1 F2 ρ2 st2 H2 ∧ RelP X.K F2 ρ2 st2.nxt y w2) p1.wld (E.step p1) h2 fun F2 ρ2 w2 H2 p2 r2 => ⟨F2, ρ2, p2, r2⟩
        refine Calls.callWith_builtin rfl (Calls.evalArgs_plain (Calls.spliced_cons (thn (q2 pins s1 I1) fun iv s2 ⟨w2, H2, I2, ry, F2, ρ2, p2, r2⟩ => ?_)))
        have q3 := hf F2 ρ2 env st2 z st' σ H2 (fun w3 H3 => ∃ F3 ρ3, Pst X.K F2 ρ2 st2 H2 F3 ρ3 st' H3 ∧ RelP X.K F3 ρ3 st'.nxt z w3) p2.wld ((E.step p1).step p2) h3 fun F3 ρ3 w3 H3 p3 r3 => ⟨F3, ρ3, p3, r3⟩
        refine Calls.spliced_cons (thn (q3 pins s2 I2) fun fv s3 ⟨w3, H3, I3, rz, F3, ρ3, p3, r3⟩ => Calls.spliced_nil ?_)
        have rx3 := (r1.step p2).step p3
        obtain ⟨a3, ob3, kws3, vws3, e3, hH3, rk3, rv3, d3⟩ := dct_ok p3.wld rx3 hd3
        cases e3
        obtain ⟨xs, dk, g1, g2, _⟩ := keyed_ok X.prog X.w I3 p3.wld.sub hH3 d3 rk3
        obtain ⟨nk, b, k1, rfl, k2⟩ := key_ok X.prog X.w I3 p3.wld.sub (goodK_iff.mp hg).2 (r2.step p3) ry
        have P3 := (p1.trans p2).trans p3
        refine call_meetsIn PySem.F.slot_dict_get dk.typeIs PySem.F.entry_dict_get (PySem.F.args_dict_get_3 _ _ _) (meetsH_dict_get_default (nestedKind X.prog X.w) a b d3.2.2.1 fv) ⟨by show X.A.units + 1 + 8 < cLine; omega, nk, xs, k2, dk, ?_⟩
        rcases look_ok (P := X.prog) (wd := X.w) k1 g1 rv3 g2 (dobj_len d3 rk3 rv3) with ⟨e1, e2⟩ | ⟨v', w', p, e1, e2, rr, rp⟩
        · rw [e2]
          rw [e1] at c
          exact ⟨w3, H3, I3.tok _, rz, c F3 ρ3 w3 H3 P3 r3⟩
        · rw [e2]
          rw [e1] at c
          exact ⟨w', H3, I3.tok _, rp, c F3 ρ3 w' H3 P3 rr⟩
      · cases h
end
end DL

/-! DL3: operators, comparisons, calls of built-ins and of the text's own defs. -/
namespace DL
open PySem PySem.Spec PyProof.Rows L2

theorem snd_opIx {X : Cx} (hu : X.A.units + 65 < cLine) : SndIx X opIx := by
  intro F ρ st x y w1 w2 v st' H Q W r1 r2 h c
  unfold opIx at h
  split at h
  · rename_i ks vs hd
    split at h
    · rename_i hk
      cases hl : dlook ks vs y with
      | none => rw [hl] at h; cases h
      | some u =>
        rw [hl] at h
        cases h
        exact ixD_ok hu W r1 r2 hd hk hl c
    · cases h
  · split at h
    · rename_i i
      cases int_ok r2
      split at h
      · rename_i xs hx
        cases e : atI xs i with
        | none => rw [e] at h; cases h
        | some u =>
          rw [e] at h
          cases h
          obtain ⟨a, vs, rfl, hq, r⟩ := seq_ok W r1 hx
          unfold atI at e
          cases ej : ixN xs.length i with
          | none => rw [ej] at e; cases e
          | some j =>
            rw [ej] at e
            obtain ⟨w, hw, rw'⟩ := r.get (i := j) e
            have at' : atI vs i = some w := by
              unfold atI
              rw [← r.length, ej]
              exact hw
            have q := c.here W rw'
            rcases hq with hq | hq
            · exact wIx_of ix_list ⟨a, vs, i, w, rfl, rfl, hq, at', q⟩
            · exact wIx_of ix_tup ⟨a, vs, i, w, rfl, rfl, hq, at', q⟩
      · cases h
    · cases h
/-! the order of tuples of ints -/
theorem lex_tot : ∀ a b : List Int, (lexLe a b || lexLe b a) = true
  | [], [] => rfl
  | [], _ :: _ => rfl
  | _ :: _, [] => rfl
  | x :: a, y :: b => by
    unfold lexLe
    rw [HT.lexLt_cons, HT.lexLt_cons]
    by_cases h : x = y
    · subst h
      rw [if_pos rfl, if_pos rfl]
      exact lex_tot a b
    · rw [if_neg h, if_neg (Ne.symm h)]
      by_cases h2 : x < y
      · rw [decide_eq_true h2, decide_eq_false (by omega)]; rfl
      · rw [decide_eq_false h2]; simp
theorem lex_anti : ∀ {a b : List Int}, lexLe a b = true → lexLe b a = true → a = b
  | [], [], _, _ => rfl
  | [], _ :: _, _, h => by cases h
  | _ :: _, [], h, _ => by cases h
  | x :: a, y :: b, h, k => by
    unfold lexLe at h k
    rw [HT.lexLt_cons] at h k
    by_cases e : x = y
    · subst e
      rw [if_pos rfl] at h k
      rw [lex_anti (a := a) (b := b) h k]
    · rw [if_neg (Ne.symm e)] at h
      rw [if_neg e] at k
      simp at h k
      omega
theorem lex_trans : ∀ {a b c : List Int}, lexLe a b = true → lexLe b c = true → lexLe a c = true
  | [], _, [], _, _ => rfl
  | [], _, _ :: _, _, _ => rfl
  | _ :: _, [], _, h, _ => by cases h
  | _ :: _, _ :: _, [], _, h => by cases h
  | x :: a, y :: b, z :: c, h, k => by
    unfold lexLe at h k ⊢
    rw [HT.lexLt_cons] at h k ⊢
    by_cases e : y = x
    · subst e
      rw [if_pos rfl] at h
      by_cases e2 : z = y
      · subst e2
        rw [if_pos rfl] at k ⊢
        exact lex_trans (a := a) (b := b) (c := c) h k
      · rw [if_neg e2] at k ⊢
        exact k
    · rw [if_neg e] at h
      by_cases e2 : z = y
      · subst e2
        rw [if_neg e]
        exact h
      · rw [if_neg e2] at k
        simp at h k
        rw [if_neg (by omega)]
        simp
        omega
theorem sortT_perm (ks : List (List Int)) : (sortT ks).Perm ks := List.mergeSort_perm ks _
theorem sortT_sorted (ks : List (List Int)) : (sortT ks).Pairwise fun a b => lexLe a b = true :=
  List.pairwise_mergeSort (le := lexLe) (fun a b c => lex_trans) (fun a b => lex_tot a b) ks
theorem sortT_uniq {ks ms : List (List Int)} (hp : ms.Perm ks) (hs : ms.Pairwise fun a b => lexLe a b = true) : ms = sortT ks :=
  List.Perm.eq_of_pairwise (le := fun a b => lexLe a b = true) (fun a b _ _ h1 h2 => lex_anti h1 h2) hs (sortT_sorted ks) (hp.trans (sortT_perm ks).symm)
theorem lexLt_code {B : Int} : ∀ {a b : List Int}, a.length = b.length → TS.Bd B a → TS.Bd B b → HT.lexLt a b = decide (TS.code B a < TS.code B b)
  | [], [], _, _, _ => by
    rw [HT.lexLt_nil_nil, decide_eq_false (Int.lt_irrefl _)]
  | x :: a, y :: b, hl, h1, h2 => by
    have hz : a.length = b.length := by simpa using hl
    clear hl
    rw [HT.lexLt_cons]
    by_cases e : x = y
    · subst e
      rw [if_pos rfl, lexLt_code hz h1.tail h2.tail]
      exact decide_eq_decide.mpr (TS.code_same hz).symm
    · rw [if_neg e]
      by_cases e2 : x < y
      · rw [decide_eq_true e2, decide_eq_true (TS.code_lt hz h1.tail h2.tail e2)]
      · have := TS.code_lt hz.symm h2.tail h1.tail (show y < x by omega)
        rw [decide_eq_false e2, decide_eq_false (by omega)]
theorem lexLe_code {B : Int} {a b : List Int} (hl : a.length = b.length) (h1 : TS.Bd B a) (h2 : TS.Bd B b) (h : TS.code B a ≤ TS.code B b) : lexLe a b = true := by
  unfold lexLe
  rw [lexLt_code hl.symm h2 h1, decide_eq_false (by omega)]
  rfl
theorem uniqT_mem {ks : List (List Int)} {x : List Int} : x ∈ uniqT ks ↔ x ∈ ks := by
  induction ks with
  | nil => exact Iff.rfl
  | cons k r ih =>
    unfold uniqT
    by_cases h : k ∈ r
    · rw [if_pos h, ih, List.mem_cons]
      constructor
      · exact .inr
      · rintro (rfl | h2)
        · exact h
        · exact h2
    · rw [if_neg h, List.mem_cons, List.mem_cons, ih]
theorem uniqT_nodup (ks : List (List Int)) : (uniqT ks).Nodup := by
  induction ks with
  | nil => exact List.nodup_nil
  | cons k r ih =>
    unfold uniqT
    by_cases h : k ∈ r
    · rw [if_pos h]; exact ih
    · rw [if_neg h]
      exact List.nodup_cons.mpr ⟨fun z => h (uniqT_mem.mp z), ih⟩
theorem perm_uniqT {ks ms : List (List Int)} (hn : ms.Nodup) (h : ∀ x, x ∈ ms ↔ x ∈ ks) : ms.Perm (uniqT ks) :=
  (List.perm_ext_iff_of_nodup hn (uniqT_nodup ks)).mpr fun x => by rw [h, uniqT_mem]
/-! lists of tuples of ints, as they lie -/
theorem perm_map_inv {α β : Type} {f : α → β} : ∀ {ys : List β} {l : List α}, ys.Perm (l.map f) → ∃ l' : List α, l'.Perm l ∧ ys = l'.map f
  | [], l, h => by
    have := h.nil_eq
    cases l with
    | nil => exact ⟨[], .refl _, rfl⟩
    | cons a l => cases this
  | y :: ys, l, h => by
    obtain ⟨a, ha, rfl⟩ := List.mem_map.mp (h.mem_iff.mp List.mem_cons_self)
    obtain ⟨s, t, rfl⟩ := List.append_of_mem ha
    have h2 : (f a :: ys).Perm (f a :: (s ++ t).map f) := by
      refine h.trans ?_
      rw [List.map_append, List.map_cons, List.map_append]
      exact List.perm_middle
    obtain ⟨l', p, e⟩ := perm_map_inv h2.cons_inv
    exact ⟨a :: l', (p.cons a).trans List.perm_middle.symm, by rw [e]; rfl⟩
theorem rel_tups {K : PySem.W.Frag} {F : Hp} {ρ : Nat → Addr} {n : Nat} : ∀ {xs : List PV} {vs : List V} {ks : List (List Int)}, tupsOf xs = some ks → RelPs K F ρ n xs vs → ∃ prs : List (Addr × List Int), vs = prs.map (fun p => V.ref p.1) ∧ ks = prs.map (·.2) ∧ ∀ p ∈ prs, SqT K F p.1 (p.2.map V.int)
  | [], vs, ks, h, r => by
    cases h
    rw [r.inv0]
    exact ⟨[], rfl, rfl, fun _ z => by cases z⟩
  | x :: xs, vs, ks, h, r => by
    obtain ⟨w, ws, rfl, h1, h2⟩ := r.inv
    unfold tupsOf at h
    split at h
    · rename_i e; cases e
    · rename_i ys r' e
      cases e
      split at h
      · rename_i ns ks' hn hk
        cases h
        obtain ⟨prs, rfl, rfl, hp⟩ := rel_tups hk h2
        rw [RelP] at h1
        obtain ⟨a, us, rfl, q, r3⟩ := h1
        have e2 := r3.intsInv hn
        subst e2
        refine ⟨(a, ns) :: prs, rfl, rfl, fun p z => ?_⟩
        rcases List.mem_cons.mp z with rfl | z
        · exact q
        · exact hp p z
      · cases h
    · cases h
theorem tups_rel {K : PySem.W.Frag} {F : Hp} {ρ : Nat → Addr} {n : Nat} : ∀ {prs : List (Addr × List Int)}, (∀ p ∈ prs, SqT K F p.1 (p.2.map V.int)) → RelPs K F ρ n (prs.map fun p => tupP p.2) (prs.map fun p => V.ref p.1)
  | [], _ => RelPs.nil
  | p :: prs, h => by
    refine RelPs.cons ?_ (tups_rel fun q z => h q (List.mem_cons_of_mem _ z))
    unfold tupP
    rw [RelP]
    exact ⟨p.1, p.2.map V.int, rfl, h p List.mem_cons_self, RelPs.ints _⟩
theorem tuple_mul1 (l : Addr) (items : Array Value) (n : Nat) (dd : Option Addr) (sl : Array (Option Value)) (u : Tok) :
    Meets (Builtin.«tuple.__mul__» ⟨[.ref l, .int 1 u], []⟩) (fun _ R s => s.heap.get? l = some { cls := .type "tuple", dict := dd, data := .seq items n, slots := sl } ∧ R (.ok (.ret (Value.ref l))) s) :=
  .of_wp fun prog w A R s h => by
    obtain ⟨hp, g, d, tk, os⟩ := s
    obtain ⟨hl, h⟩ := h
    have f1 := AutoSeq1.idx_int
    have c1 : (items.isEmpty || (1 : Int) == 1) = true := by rw [show ((1 : Int) == 1) = true from rfl, Bool.or_true]
    wp_walk using wpAny_loadPart' hl
    repeat (first
      | (refine wpAny_ite_false (decide_eq_false (by decide)) ?_; wp_walk using wpAny_loadPart' hl)
      | (refine wpAny_ite_true (decide_eq_true c1) ?_; wp_walk using wpAny_loadPart' hl))
    exact ⟨_, rfl, h⟩
theorem tuple_mul0 (l : Addr) (items : Array Value) (n : Nat) (dd : Option Addr) (sl : Array (Option Value)) (u : Tok) (hi : items.isEmpty = false) :
    Meets (Builtin.«tuple.__mul__» ⟨[.ref l, .int 0 u], []⟩) (fun _ R s => s.heap.get? l = some { cls := .type "tuple", dict := dd, data := .seq items n, slots := sl } ∧ R (.ok (.ret (Value.ref s.heap.objs.size))) { s with heap := s.heap.push { cls := Value.type "tuple", data := Data.seq #[] }, toks := s.toks }) :=
  .of_wp fun prog w A R s h => by
    obtain ⟨hp, g, d, tk, os⟩ := s
    obtain ⟨hl, h⟩ := h
    have f1 := AutoSeq1.idx_int
    have c1 : (items.isEmpty || (0 : Int) == 1) = false := by rw [hi]; rfl
    have c2 : (decide ((0 : Int) ≤ 0) || items.isEmpty) = true := by rw [hi]; rfl
    wp_walk using wpAny_loadPart' hl
    repeat (first
      | (refine wpAny_ite_false (decide_eq_false (by decide)) ?_; wp_walk using wpAny_loadPart' hl)
      | (refine wpAny_ite_false (decide_eq_false (by rw [c1]; exact Bool.false_ne_true)) ?_; wp_walk using wpAny_loadPart' hl)
      | (refine wpAny_ite_true (decide_eq_true c2) ?_; wp_walk using wpAny_loadPart' hl))
    exact ⟨_, rfl, h⟩
/-- t * k -/
def rRepA (K : PySem.W.Frag) : R2 := fun x y H Q => ∃ l k xs, x = .ref l ∧ y = .int k ∧ SqT K H l xs ∧ xs ≠ [] ∧ 0 ≤ k ∧ k ≤ 1000 ∧ xs.length ≤ 1000 ∧ (k = 1 → Q (.ref l) H) ∧ (k ≠ 1 → ∀ p, H p = none → Q (.ref p) (upd H p (.tup (List.replicate k.toNat xs).flatten)))
section
variable {X : Cx}
theorem op_repA : OpR X (binaryOp .Mult) (rRepA X.K) := by
  intro pins s σ H x y v u Q I rx ry h
  obtain ⟨l, k, xs, rfl, rfl, hT, hne, h0, h1, hz, q1, q⟩ := h
  by_cases h2 : 2 ≤ k
  · exact op_repT pins s σ H _ _ v u Q I rx ry ⟨l, k, xs, rfl, rfl, hT, hne, h2, h1, hz, q (by omega)⟩
  cases rx
  obtain ⟨t, rfl⟩ := ry
  obtain ⟨its, r, ⟨⟨cls, dd, data, sl⟩, ho, hc, n, hd⟩, hs⟩ := I.tuple hT
  simp only at hc hd
  subst hc hd
  have hle : its.length = xs.length := r.length.symm
  have hi : its.toArray.isEmpty = false := by
    cases its with
    | nil => exact absurd (List.eq_nil_of_length_eq_zero hle.symm) hne
    | cons a b => rfl
  by_cases hk : k = 1
  · subst hk
    refine wpAny_binaryOp_repeat_ref (T := "tuple") (U := "int") (by decide) ⟨_, ho, rfl⟩ (fun s' => typeIs_int s' 1 t) noFill_tuple_mul F.fills_int_mul F.slot_int_rmul repeat_tuple F.slot_int_index.lookup
      (call_meets F.slot_int_rmul (typeIs_int s 1 t) F.entry_int_rmul (F.args_int_rmul_2 _ _) (int_rmul_tuple 1 t l its.toArray n dd sl)
        ⟨ho, rfl, ⟨_, ho, rfl⟩, call_meets F.slot_tuple_mul ⟨_, ho, rfl⟩ F.entry_tuple_mul (F.args_tuple_mul_2 _ _) (tuple_mul1 l its.toArray n dd sl t) ⟨ho, ?_⟩⟩)
    exact ⟨.ref l, H, I, rfl, q1 rfl⟩
  · have hk : k = 0 := by omega
    subst hk
    refine wpAny_binaryOp_repeat_ref (T := "tuple") (U := "int") (by decide) ⟨_, ho, rfl⟩ (fun s' => typeIs_int s' 0 t) noFill_tuple_mul F.fills_int_mul F.slot_int_rmul repeat_tuple F.slot_int_index.lookup
      (call_meets F.slot_int_rmul (typeIs_int s 0 t) F.entry_int_rmul (F.args_int_rmul_2 _ _) (int_rmul_tuple 0 t l its.toArray n dd sl)
        ⟨ho, rfl, ⟨_, ho, rfl⟩, call_meets F.slot_tuple_mul ⟨_, ho, rfl⟩ F.entry_tuple_mul (F.args_tuple_mul_2 _ _) (tuple_mul0 l its.toArray n dd sl t hi) ⟨ho, ?_⟩⟩)
    refine ⟨.ref s.heap.objs.size, _, I.laid (t' := s.toks) (o := .tup (List.replicate (0 : Int).toNat xs).flatten) (fun b ob q => Heap.get?_push_of_some _ q) (Nat.le_refl _) ?_, rfl, q (by omega) _ (I.hok.fresh (Nat.le_refl _))⟩
    exact ⟨by show ([] : List V).length ≤ sizeLine; exact Nat.zero_le _, _, Paired.nil, IsTup.new _ _⟩
theorem vals3 {x y z : V} {us : List Value} (r : Vals [x, y, z] us) : ∃ u w t, us = [u, w, t] ∧ RelV x u ∧ RelV y w ∧ RelV z t := by
  cases r with
  | cons r1 r2 =>
    obtain ⟨u, w, rfl, a, b⟩ := vals2 r2
    exact ⟨_, _, _, rfl, r1, a, b⟩
theorem call_max3 (hc : X.calm = true) : CallR X (.builtin "max") (fun xs H Q => ∃ i j k, xs = [.int i, .int j, .int k] ∧ Q (.int (if j > i then (if k > j then k else j) else (if k > i then k else i))) H) := by
  intro pins s σ H xs us Q I r h
  obtain ⟨i, j, k, rfl, q⟩ := h
  obtain ⟨u, w', z, rfl, ⟨t, rfl⟩, ⟨t', rfl⟩, ⟨t'', rfl⟩⟩ := vals3 r
  refine max_three_ints (I.ok.hd hc) fun h' tk kk => ⟨_, H, I.kept kk, ?_, q⟩
  by_cases hj : j > i
  · rw [if_pos hj, if_pos hj]
    by_cases hk : k > j
    · rw [if_pos hk, if_pos hk]; exact ⟨_, rfl⟩
    · rw [if_neg hk, if_neg hk]; exact ⟨_, rfl⟩
  · rw [if_neg hj, if_neg hj]
    by_cases hk : k > i
    · rw [if_pos hk, if_pos hk]; exact ⟨_, rfl⟩
    · rw [if_neg hk, if_neg hk]; exact ⟨_, rfl⟩
theorem call_min3 (hc : X.calm = true) : CallR X (.builtin "min") (fun xs H Q => ∃ i j k, xs = [.int i, .int j, .int k] ∧ Q (.int (if j < i then (if k < j then k else j) else (if k < i then k else i))) H) := by
  intro pins s σ H xs us Q I r h
  obtain ⟨i, j, k, rfl, q⟩ := h
  obtain ⟨u, w', z, rfl, ⟨t, rfl⟩, ⟨t', rfl⟩, ⟨t'', rfl⟩⟩ := vals3 r
  refine min_three_ints (I.ok.hd hc) fun h' tk kk => ⟨_, H, I.kept kk, ?_, q⟩
  by_cases hj : j < i
  · rw [if_pos hj, if_pos hj]
    by_cases hk : k < j
    · rw [if_pos hk, if_pos hk]; exact ⟨_, rfl⟩
    · rw [if_neg hk, if_neg hk]; exact ⟨_, rfl⟩
  · rw [if_neg hj, if_neg hj]
    by_cases hk : k < i
    · rw [if_pos hk, if_pos hk]; exact ⟨_, rfl⟩
    · rw [if_neg hk, if_neg hk]; exact ⟨_, rfl⟩
end
section
variable {X : Cx}
theorem so_add {m : Bool} : SndO X (binaryOp .Add) (opAdd m) := by
  intro F ρ st x y w1 w2 v st' H Q W r1 r2 h c
  unfold opAdd at h
  split at h
  · cases h
    cases int_ok r1; cases int_ok r2
    exact wR_of op_add ⟨_, _, rfl, rfl, c.here W (rel_int _)⟩
  · split at h
    · rename_i hz
      cases h
      cases str_ok r1; cases str_ok r2
      exact wR_of op_add_str ⟨_, _, rfl, rfl, hz, c.here W (rel_str _)⟩
    · cases h
  · rename_i a b
    split at h
    · rename_i hz
      cases h
      obtain ⟨p, vs, rfl, q1, s1⟩ := tup_ok W r1
      obtain ⟨p', vs', rfl, q2, s2⟩ := tup_ok W r2
      refine wR_of op_catA ⟨_, _, vs, vs', rfl, rfl, q1, q2, by rw [← s1.length, ← s2.length]; exact hz, fun e => ?_, fun e e' => ?_, fun e e' p hp => ?_⟩
      · subst e
        have : a = [] := List.eq_nil_of_length_eq_zero s1.length
        subst this
        exact c.here W r2
      · subst e'
        have : b = [] := List.eq_nil_of_length_eq_zero s2.length
        subst this
        rw [List.append_nil] at c
        exact c.here W r1
      · exact tupV_ok W (s1.append s2) c hp
    · cases h
  · split at h
    · rename_i a b ha hb
      obtain ⟨p, vs, rfl, q1, s1⟩ := lst_ok W r1 ha
      obtain ⟨p', vs', rfl, q2, s2⟩ := lst_ok W r2 hb
      obtain ⟨hz, k⟩ := mkL_ok W (s1.append s2) h c
      exact wR_of op_cat ⟨_, _, vs, vs', rfl, rfl, q1, q2, by rw [← List.length_append]; exact hz, k⟩
    · cases h
theorem so_sub : SndO X (binaryOp .Sub) opSub := by
  intro F ρ st x y w1 w2 v st' H Q W r1 r2 h c
  unfold opSub at h
  split at h
  · cases h
    cases int_ok r1; cases int_ok r2
    exact wR_of op_sub ⟨_, _, rfl, rfl, c.here W (rel_int _)⟩
  · cases h
theorem so_mul : SndO X (binaryOp .Mult) opMul := by
  intro F ρ st x y w1 w2 v st' H Q W r1 r2 h c
  unfold opMul at h
  split at h
  · split at h
    · rename_i hz
      cases h
      cases int_ok r1; cases int_ok r2
      exact wR_of op_mul ⟨_, _, rfl, rfl, okMul_iff.mp hz, c.here W (rel_int _)⟩
    · cases h
  · rename_i xs k
    split at h
    · rename_i hz
      cases h
      obtain ⟨z0, z1, z2, z3⟩ := okRep_iff.mp hz
      obtain ⟨p, vs, rfl, q1, s1⟩ := tup_ok W r1
      cases int_ok r2
      have hl := s1.length
      refine wR_of op_repA ⟨p, k, vs, rfl, rfl, q1, fun e => ?_, z2, z3, by omega, fun e => ?_, fun e p hp => ?_⟩
      · subst e
        rw [List.length_nil] at hl
        omega
      · subst e
        have : (List.replicate (1 : Int).toNat xs).flatten = xs := by
          show (List.replicate 1 xs).flatten = xs
          simp
        rw [this] at c
        exact c.here W r1
      · exact tupV_ok W (s1.replicate _) c hp
    · cases h
  · cases h
theorem so_mod : SndO X (binaryOp .Mod) opMod := by
  intro F ρ st x y w1 w2 v st' H Q W r1 r2 h c
  unfold opMod at h
  split at h
  · split at h
    · rename_i hz
      cases h
      cases int_ok r1; cases int_ok r2
      exact wR_of op_mod ⟨_, _, rfl, rfl, okMod_iff.mp hz, c.here W (rel_int _)⟩
    · cases h
  · cases h
theorem so_div : SndO X (binaryOp .FloorDiv) opDiv := by
  intro F ρ st x y w1 w2 v st' H Q W r1 r2 h c
  unfold opDiv at h
  split at h
  · split at h
    · rename_i hz
      cases h
      cases int_ok r1; cases int_ok r2
      exact wR_of op_fdiv ⟨_, _, rfl, rfl, okDiv_iff.mp hz, c.here W (rel_int _)⟩
    · cases h
  · cases h
theorem so_pow : SndO X (binaryOp .Pow) opPow := by
  intro F ρ st x y w1 w2 v st' H Q W r1 r2 h c
  unfold opPow at h
  split at h
  · split at h
    · rename_i hz
      cases h
      cases int_ok r1; cases int_ok r2
      exact wR_of op_pow ⟨_, _, rfl, rfl, okPow_iff.mp hz, c.here W (rel_int _)⟩
    · cases h
  · cases h
theorem su_neg : SndU X (unaryOp .USub) opNeg := by
  intro F ρ st x w1 v st' H Q W r1 h c
  unfold opNeg at h
  split at h
  · cases h
    cases int_ok r1
    exact wU_of un_neg ⟨_, rfl, c.here W (rel_int _)⟩
  · cases h
theorem so_cmpI {op : CmpOp} {p : Int → Int → Bool} (hr : OpR X (compareOp op) (rI0 fun i j => .bl (p i j))) : SndO X (compareOp op) (cmpI p) := by
  intro F ρ st x y w1 w2 v st' H Q W r1 r2 h c
  unfold cmpI at h
  split at h
  · cases h
    cases int_ok r1; cases int_ok r2
    exact wR_of hr ⟨_, _, rfl, rfl, c.here W (rel_bl _)⟩
  · cases h
theorem so_le : SndO X (compareOp .LtE) (cmpI fun i j => decide (i ≤ j)) := so_cmpI op_le
theorem so_gt : SndO X (compareOp .Gt) (cmpI fun i j => decide (j < i)) := so_cmpI op_gt
theorem so_ge : SndO X (compareOp .GtE) (cmpI fun i j => decide (j ≤ i)) := so_cmpI op_ge

/-! == -/
mutual
theorem dp_ok {K : PySem.W.Frag} {F H : Hp} {ρ : Nat → Addr} {n : Nat} {cs : Nat → Option Cell} (s : Sub F H) : ∀ {x : PV} {w : V} {d : PyData}, RelP K F ρ n x w → x.toD cs = some d → Dp K H w d
  | .non, _, _, r, h => by rw [PV.toD] at h; cases h; rw [non_ok r]; exact .non
  | .bl _, _, _, r, h => by rw [PV.toD] at h; cases h; rw [bl_ok r]; exact .bl _
  | .int _, _, _, r, h => by rw [PV.toD] at h; cases h; rw [int_ok r]; exact .int _
  | .str _, _, _, r, h => by rw [PV.toD] at h; cases h; rw [str_ok r]; exact .str _
  | .tup xs, _, _, r, h => by
    rw [PV.toD] at h
    rw [RelP] at r
    obtain ⟨a, vs, rfl, q, r⟩ := r
    cases e : toDs cs xs with
    | none => rw [e] at h; cases h
    | some ds =>
      rw [e] at h; cases h
      exact .tup (s.sqT q) (dps_ok s r e)
  | .lst xs, _, _, r, h => by
    rw [PV.toD] at h
    rw [RelP] at r
    obtain ⟨a, vs, rfl, q, r⟩ := r
    cases e : toDs cs xs with
    | none => rw [e] at h; cases h
    | some ds =>
      rw [e] at h; cases h
      exact .lst (.inl (.inl (s _ _ q))) (dps_ok s r e)
  | .ro xs, _, _, r, h => by
    rw [PV.toD] at h
    rw [RelP] at r
    obtain ⟨a, vs, rfl, q, r⟩ := r
    cases e : toDs cs xs with
    | none => rw [e] at h; cases h
    | some ds =>
      rw [e] at h; cases h
      exact .lst (s.sqL q) (dps_ok s r e)
  | .dct _ _, _, _, _, h => by rw [PV.toD] at h; cases h
  | .loc _, _, _, _, h => by rw [PV.toD] at h; cases h
theorem dps_ok {K : PySem.W.Frag} {F H : Hp} {ρ : Nat → Addr} {n : Nat} {cs : Nat → Option Cell} (s : Sub F H) : ∀ {xs : List PV} {ws : List V} {ds : List PyData}, RelPs K F ρ n xs ws → toDs cs xs = some ds → DpAll K H ws ds
  | [], _, _, r, h => by rw [toDs] at h; cases h; rw [r.inv0]; exact .nil
  | x :: r, _, _, rr, h => by
    rw [toDs] at h
    obtain ⟨w, ws, rfl, h1, h2⟩ := rr.inv
    cases e : x.toD cs with
    | none => rw [e] at h; cases h
    | some d =>
      cases e2 : toDs cs r with
      | none => rw [e, e2] at h; cases h
      | some ds =>
        rw [e, e2] at h; cases h
        exact .cons (dp_ok s h1 e) (dps_ok s h2 e2)
end
theorem dpd_ok {F : Hp} {ρ : Nat → Addr} {st : Sto} {H : Hp} {x : PV} {w : V} {d : PyData} (W : Wld X.K F ρ st H) (r : RelP X.K F ρ st.nxt x w) (h : (derf st x).toD st.cs = some d) : Dp X.K H w d := by
  unfold derf at h
  split at h
  · rename_i l
    split at h
    · rename_i c hc
      rw [RelP] at r
      obtain ⟨_, rfl⟩ := r
      obtain ⟨_, q⟩ := W.cell l c hc
      cases c with
      | lst xs =>
        obtain ⟨vs, e, q⟩ := q
        have h : (PV.lst xs).toD st.cs = some d := h
        rw [PV.toD] at h
        cases e2 : toDs st.cs xs with
        | none => rw [e2] at h; cases h
        | some ds =>
          rw [e2] at h; cases h
          exact .lst (.inl (.inl e)) (dps_ok W.sub q e2)
      | dct ks vs =>
        have h : (PV.dct ks vs).toD st.cs = some d := h
        rw [PV.toD] at h; cases h
    · rw [PV.toD] at h; cases h
  · exact dp_ok W.sub r h
theorem so_lt (hu : X.A.units + 65 < cLine) : SndO X (compareOp .Lt) cmpLt := by
  intro F ρ st x y w1 w2 v st' H Q W r1 r2 h c
  unfold cmpLt at h
  split at h
  · cases h
    cases int_ok r1; cases int_ok r2
    exact wR_of op_lt ⟨_, _, rfl, rfl, c.here W (rel_bl _)⟩
  · split at h
    · rename_i d e h1 h2
      split at h
      · rename_i hz
        cases h
        rw [Bool.and_eq_true, decide_eq_true_eq] at hz
        have d1 := dp_ok W.sub r1 h1
        have d2 := dp_ok W.sub r2 h2
        have hn : d ≠ .none := by
          rw [PV.toD] at h1
          intro z
          subst z
          cases q : toDs st.cs _ with
          | none => rw [q] at h1; cases h1
          | some _ => rw [q] at h1; cases h1
        intro pins s σ v u I rv ru
        obtain ⟨as, ra⟩ := Dp.reads I d w1 v d1 rv
        obtain ⟨bs, rb⟩ := Dp.reads I e w2 u d2 ru
        show wpAny _ _ (richCompare .Lt v u) _ _ s
        exact PySem.W.rcLt_alike d e X.A s v u as bs ra rb hz.1 hn (by omega) X.prog X.w _ _ ⟨.bl _, H, I, rfl, c.here W (rel_bl _)⟩
      · cases h
    · cases h
  · cases h
theorem so_eq (hu : X.A.units + 65 < cLine) : SndO X (compareOp .Eq) (cmpEq false) := by
  intro F ρ st x y w1 w2 v st' H Q W r1 r2 h c
  unfold cmpEq at h
  split at h
  · rename_i d e hd he
    split at h
    · rename_i hs
      cases h
      rw [Bool.and_eq_true] at hs
      have q := c.here W (rel_bl _)
      rw [Bool.bne_false] at q
      exact wR_of (op_eqD (by omega)) ⟨d, e, dpd_ok W r1 hd, dpd_ok W r2 he, hs.1, hs.2, q⟩
    · cases h
  · cases h
theorem so_ne (hu : X.A.units + 65 < cLine) : SndO X (compareOp .NotEq) (cmpEq true) := by
  intro F ρ st x y w1 w2 v st' H Q W r1 r2 h c
  unfold cmpEq at h
  split at h
  · rename_i d e hd he
    split at h
    · rename_i hs
      cases h
      rw [Bool.and_eq_true] at hs
      have q := c.here W (rel_bl _)
      rw [Bool.bne_true] at q
      exact wR_of (op_neD (by omega)) ⟨d, e, dpd_ok W r1 hd, dpd_ok W r2 he, hs.1, hs.2, q⟩
    · cases h
  · cases h
/-! in -/
theorem flat_ok {K : PySem.W.Frag} {F : Hp} {ρ : Nat → Addr} {n : Nat} {x : PV} {w : V} (r : RelP K F ρ n x w) (h : flatP x = true) : flatV w = true := by
  cases x with
  | non => rw [non_ok r]; rfl
  | bl b => rw [bl_ok r]; rfl
  | int b => rw [int_ok r]; rfl
  | str b => rw [str_ok r]; rfl
  | _ => exact absurd (show false = true from h) Bool.false_ne_true
theorem eqP_ok {K : PySem.W.Frag} {F : Hp} {ρ : Nat → Addr} {n : Nat} {x y : PV} {w u : V} (r : RelP K F ρ n x w) (r' : RelP K F ρ n y u) (h : flatP x = true) (h' : flatP y = true) : eqV w u = eqP x y := by
  cases x with
  | non =>
    rw [non_ok r]
    cases y with
    | non => rw [non_ok r']; rfl
    | bl b => rw [bl_ok r']; rfl
    | int b => rw [int_ok r']; rfl
    | str b => rw [str_ok r']; rfl
    | _ => exact absurd (show false = true from h') Bool.false_ne_true
  | bl b =>
    rw [bl_ok r]
    cases y with
    | non => rw [non_ok r']; rfl
    | bl b => rw [bl_ok r']; rfl
    | int b => rw [int_ok r']; rfl
    | str b => rw [str_ok r']; rfl
    | _ => exact absurd (show false = true from h') Bool.false_ne_true
  | int b =>
    rw [int_ok r]
    cases y with
    | non => rw [non_ok r']; rfl
    | bl b => rw [bl_ok r']; rfl
    | int b => rw [int_ok r']; rfl
    | str b => rw [str_ok r']; rfl
    | _ => exact absurd (show false = true from h') Bool.false_ne_true
  | str b =>
    rw [str_ok r]
    cases y with
    | non => rw [non_ok r']; rfl
    | bl b => rw [bl_ok r']; rfl
    | int b => rw [int_ok r']; rfl
    | str b => rw [str_ok r']; rfl
    | _ => exact absurd (show false = true from h') Bool.false_ne_true
  | _ => exact absurd (show false = true from h) Bool.false_ne_true
theorem flats_ok {K : PySem.W.Frag} {F : Hp} {ρ : Nat → Addr} {n : Nat} {x : PV} {w : V} (r : RelP K F ρ n x w) (h : flatP x = true) : ∀ {ys : List PV} {us : List V}, RelPs K F ρ n ys us → ys.all flatP = true → us.all flatV = true ∧ (us.any fun y => eqV y w) = ys.any fun z => eqP z x
  | [], _, q, _ => by rw [q.inv0]; exact ⟨rfl, rfl⟩
  | y :: ys, _, q, f => by
    obtain ⟨u, us, rfl, q1, q2⟩ := q.inv
    rw [List.all_cons, Bool.and_eq_true] at f
    obtain ⟨i1, i2⟩ := flats_ok r h q2 f.2
    rw [List.all_cons, List.any_cons, List.any_cons, i1, i2, flat_ok q1 f.1, eqP_ok q1 r f.1 h]
    exact ⟨rfl, rfl⟩
theorem so_in (hu : X.A.units + 65 < cLine) : SndO X (compareOp .In) (cmpIn false) := by
  intro F ρ st x y w1 w2 v st' H Q W r1 r2 h c
  unfold cmpIn at h
  split at h
  · rename_i ks vs hd
    split at h
    · rename_i hk
      cases h
      exact inD_ok hu false W r1 r2 hd hk c
    · cases h
  unfold cmpInS at h
  split at h
  · rename_i ys hy
    split at h
    · rename_i hf
      cases h
      rw [Bool.and_eq_true] at hf
      obtain ⟨a, vs, rfl, hq, r⟩ := seq_ok W r2 hy
      obtain ⟨f1, f2⟩ := flats_ok r1 hf.1 r hf.2
      have q := c.here W (rel_bl _)
      rw [Bool.bne_false, ← f2] at q
      exact wR_of op_in_seq ⟨a, vs, rfl, hq, flat_ok r1 hf.1, f1, q⟩
    · split at h
      · rename_i ys hy
        split at h
        · rename_i d ds hd hds
          split at h
          · rename_i hs
            cases h
            rw [Bool.and_eq_true] at hs
            obtain ⟨a, vs, rfl, hq, r⟩ := lst_ok W r2 hy
            have q := c.here W (rel_bl _)
            rw [Bool.bne_false] at q
            exact wR_of (op_inD hu) ⟨d, ds, dpd_ok W r1 hd, .lst (.inl (.inl hq)) (dps_ok W.sub r hds), hs.1, hs.2, q⟩
          · cases h
        · cases h
      · cases h
  · cases h
theorem so_notIn (hu : X.A.units + 65 < cLine) : SndO X (compareOp .NotIn) (cmpIn true) := by
  intro F ρ st x y w1 w2 v st' H Q W r1 r2 h c
  unfold cmpIn at h
  split at h
  · rename_i ks vs hd
    split at h
    · rename_i hk
      cases h
      exact inD_ok hu true W r1 r2 hd hk c
    · cases h
  unfold cmpInS at h
  split at h
  · rename_i ys hy
    split at h
    · rename_i hf
      cases h
      rw [Bool.and_eq_true] at hf
      obtain ⟨a, vs, rfl, hq, r⟩ := seq_ok W r2 hy
      obtain ⟨f1, f2⟩ := flats_ok r1 hf.1 r hf.2
      have q := c.here W (rel_bl _)
      rw [Bool.bne_true, ← f2] at q
      exact wR_of op_notIn_seq ⟨a, vs, rfl, hq, flat_ok r1 hf.1, f1, q⟩
    · split at h
      · rename_i ys hy
        split at h
        · rename_i d ds hd hds
          split at h
          · rename_i hs
            cases h
            rw [Bool.and_eq_true] at hs
            obtain ⟨a, vs, rfl, hq, r⟩ := lst_ok W r2 hy
            have q := c.here W (rel_bl _)
            rw [Bool.bne_true] at q
            exact wR_of (op_notInD hu) ⟨d, ds, dpd_ok W r1 hd, .lst (.inl (.inl hq)) (dps_ok W.sub r hds), hs.1, hs.2, q⟩
          · cases h
        · cases h
      · cases h
  · cases h

/-! ### chains, conditions -/
variable {pos : Pos} {a b c e : Expr} {A B C : DE}
theorem snd_ite {t : Expr} {T : DT} (ht : SndT X t T) (ha : SndE X a A) (hb : SndE X b B) : SndE X (.IfExp t a b pos) (dIte T A B) := by
  intro F ρ env st v st' σ H Q W E h c
  obtain ⟨k, st1, h1, h2⟩ := mb_eq h
  refine wE_of (pe_ifExp pt_w pe_w pe_w) (ht F ρ env st k st1 σ H _ W E h1 fun F1 ρ1 H1 p1 => ?_)
  cases k with
  | true => exact ha F1 ρ1 env st1 v st' σ H1 Q p1.wld (E.step p1) h2 (Ct.of p1 c)
  | false => exact hb F1 ρ1 env st1 v st' σ H1 Q p1.wld (E.step p1) h2 (Ct.of p1 c)

/-! ### slices -/
def SndOp (X : Cx) (oe : Option Expr) (D : DO) : Prop := ∃ t, PO X oe t ∧ ∀ F ρ env st o st' σ H Q, Wld X.K F ρ st H → ERel X.K F ρ st.nxt env σ → D env st = some (o, st') →
  (∀ F' ρ' H', Pst X.K F ρ st H F' ρ' st' H' → Q o H') → t σ H Q
theorem sop_none : SndOp X none oNone := ⟨_, po_none, fun F ρ env st o st' σ H Q W E h c => by cases h; exact c F ρ H (Pst.refl W)⟩
theorem sop_some (ha : SndE X a A) : SndOp X (some a) (oSome A) := ⟨_, po_some pe_w, fun F ρ env st o st' σ H Q W E h c => by
  obtain ⟨x, st1, h1, h2⟩ := mb_eq h
  refine ha F ρ env st x st1 σ H _ W E h1 fun F1 ρ1 w1 H1 p1 r1 => ?_
  split at h2
  · cases h2
    exact ⟨_, int_ok r1, c F1 ρ1 H1 p1⟩
  · cases h2⟩
theorem RelPs.cut {K : PySem.W.Frag} {F : Hp} {ρ : Nat → Addr} {n : Nat} {xs : List PV} {vs : List V} (r : RelPs K F ρ n xs vs) (lo hi : Option Int) : RelPs K F ρ n (cutP xs lo hi) (cutV vs lo hi) := by
  unfold cutP cutV
  rw [r.length]
  exact (r.drop _).take _
theorem cut_whole {xs : List PV} {lo hi : Option Int} (h : HT.sIx xs.length 0 lo = 0 ∧ HT.sIx xs.length xs.length hi = xs.length) : cutP xs lo hi = xs := by
  unfold cutP
  rw [h.1, h.2, List.drop_zero, Nat.sub_zero, List.take_length]
theorem snd_sl {m : Bool} {lo hi : Option Expr} {L U : DO} {p2 : Pos} (ha : SndE X a A) (hl : SndOp X lo L) (hu : SndOp X hi U) : SndE X (.Subscript a (.Slice lo hi none p2) pos) (dSl m A L U) := by
  intro F ρ env st v st' σ H Q W E h c
  obtain ⟨tl, pl, kl⟩ := hl
  obtain ⟨tu, pu, ku⟩ := hu
  obtain ⟨x, st1, h1, h⟩ := mb_eq h
  obtain ⟨l, st2, h2, h⟩ := mb_eq h
  obtain ⟨u, st3, h3, h⟩ := mb_eq h
  refine wE_of (pe_slice (SlR.or sl_list sl_tupA) pe_w pl pu) ?_
  refine ha F ρ env st x st1 σ H _ W E h1 fun F1 ρ1 w1 H1 p1 r1 => ?_
  refine kl F1 ρ1 env st1 l st2 σ H1 _ p1.wld (E.step p1) h2 fun F2 ρ2 H2 p2 => ?_
  refine ku F2 ρ2 env st2 u st3 σ H2 _ p2.wld ((E.step p1).step p2) h3 fun F3 ρ3 H3 p3 => ?_
  have r3 := (r1.step p2).step p3
  have W3 := p3.wld
  have c3 := Ct.of ((p1.trans p2).trans p3) c
  split at h
  · cases h
    obtain ⟨p, vs, rfl, q, r⟩ := tup_ok W3 r3
    refine .inr ⟨p, vs, rfl, q, fun hw => ?_, fun _ p' hp => ?_⟩
    · rw [← r.length] at hw
      rw [cut_whole hw] at c3
      exact c3.here W3 r3
    · exact tupV_ok W3 (r.cut _ _) c3 hp
  · split at h
    · rename_i xs hx
      obtain ⟨p, vs, rfl, q, r⟩ := lst_ok W3 r3 hx
      exact .inl ⟨p, vs, rfl, .inl (.inl q), (mkL_ok W3 (r.cut _ _) h c3).2⟩
    · cases h

/-! ### calls -/
theorem snd_callB {x : Str} {p : Pos} {es : List Expr} {id : String} {D : DA} {f : FSem} (hf : SndC X (.builtin id) f) (hg : Gl X x) (hm : X.mg x = none) (hv : bootBuiltins x = some (.builtin id)) (ha : SndA X (e :: es) D) (hn : x ≠ "__name__") (hdb : (x == ("__debug__" : Str)) = false)
    (he : starEach (e :: es) X.env = (false, eval e X.env) :: starEach es X.env) (hpl : (backTo pos (starEach es X.env)).any (·.1) = false) : SndE X (.Call (.Name x p) (e :: es) [] pos) (dApp f D) := by
  intro F ρ env st v st' σ H Q W E h c
  obtain ⟨xs, st1, h1, h⟩ := mb_eq h
  refine wE_of (pe_callB cr_w hg hm hv pa_w hn hdb he hpl) ?_
  exact ha F ρ env st xs st1 σ H _ W E h1 fun F1 ρ1 w1 H1 p1 r1 => hf F1 ρ1 st1 xs w1 v st' H1 Q p1.wld r1 h (Ct.of p1 c)
theorem snd_callTy {x : Str} {p : Pos} {es : List Expr} {T : String} {D : DA} {f : FSem} (hf : SndC X (.type T) f) (hg : Gl X x) (hm : X.mg x = none) (hv : bootBuiltins x = some (.type T)) (ha : SndA X (e :: es) D) (hn : x ≠ "__name__") (hdb : (x == ("__debug__" : Str)) = false)
    (he : starEach (e :: es) X.env = (false, eval e X.env) :: starEach es X.env) (hpl : (backTo pos (starEach es X.env)).any (·.1) = false) : SndE X (.Call (.Name x p) (e :: es) [] pos) (dApp f D) := by
  intro F ρ env st v st' σ H Q W E h c
  obtain ⟨xs, st1, h1, h⟩ := mb_eq h
  refine wE_of (pe_callTy cr_w hg hm hv pa_w hn hdb he hpl) ?_
  exact ha F ρ env st xs st1 σ H _ W E h1 fun F1 ρ1 w1 H1 p1 r1 => hf F1 ρ1 st1 xs w1 v st' H1 Q p1.wld r1 h (Ct.of p1 c)
theorem one_inv {K : PySem.W.Frag} {F : Hp} {ρ : Nat → Addr} {n : Nat} {x : PV} {ws : List V} (r : RelPs K F ρ n [x] ws) : ∃ w, ws = [w] ∧ RelP K F ρ n x w := by
  obtain ⟨w, ws, rfl, h1, h2⟩ := r.inv
  rw [h2.inv0]
  exact ⟨w, rfl, h1⟩
theorem two_inv {K : PySem.W.Frag} {F : Hp} {ρ : Nat → Addr} {n : Nat} {x y : PV} {ws : List V} (r : RelPs K F ρ n [x, y] ws) : ∃ w u, ws = [w, u] ∧ RelP K F ρ n x w ∧ RelP K F ρ n y u := by
  obtain ⟨w, ws, rfl, h1, h2⟩ := r.inv
  obtain ⟨u, rfl, h3⟩ := one_inv h2
  exact ⟨w, u, rfl, h1, h3⟩
theorem three_inv {K : PySem.W.Frag} {F : Hp} {ρ : Nat → Addr} {n : Nat} {x y z : PV} {ws : List V} (r : RelPs K F ρ n [x, y, z] ws) : ∃ w u t, ws = [w, u, t] ∧ RelP K F ρ n x w ∧ RelP K F ρ n y u ∧ RelP K F ρ n z t := by
  obtain ⟨w, ws, rfl, h1, h2⟩ := r.inv
  obtain ⟨u, t, rfl, h3, h4⟩ := two_inv h2
  exact ⟨w, u, t, rfl, h1, h3, h4⟩
theorem sc_len : SndC X (.builtin "len") bLen := by
  intro F ρ st xs ws v st' H Q W r h c
  unfold bLen at h
  split at h
  · split at h
    · rename_i hz
      cases h
      obtain ⟨w, rfl, r1⟩ := one_inv r
      cases str_ok r1
      exact wC_of call_len_str ⟨_, rfl, hz, c.here W (rel_int _)⟩
    · cases h
  · split at h
    · rename_i xs hx
      cases h
      obtain ⟨w, rfl, r1⟩ := one_inv r
      obtain ⟨a, vs, rfl, hq, r2⟩ := seq_ok W r1 hx
      have q := c.here W (rel_int _)
      rw [r2.length] at q
      exact wC_of call_len_seq ⟨a, vs, rfl, hq, q⟩
    · split at h
      · rename_i ks vs hd
        cases h
        obtain ⟨w, rfl, r1⟩ := one_inv r
        exact lenD_ok W r1 hd c
      · cases h
  · cases h
theorem sc_abs : SndC X (.builtin "abs") bAbs := by
  intro F ρ st xs ws v st' H Q W r h c
  unfold bAbs at h
  split at h
  · cases h
    obtain ⟨w, rfl, r1⟩ := one_inv r
    cases int_ok r1
    exact wC_of call_abs ⟨_, rfl, c.here W (rel_int _)⟩
  · cases h
theorem sc_int : SndC X (.type "int") bInt := by
  intro F ρ st xs ws v st' H Q W r h c
  unfold bInt at h
  split at h
  · cases h
    obtain ⟨w, rfl, r1⟩ := one_inv r
    cases int_ok r1
    exact wC_of call_int1 (.inl ⟨_, rfl, c.here W (rel_int _)⟩)
  · cases h
    obtain ⟨w, rfl, r1⟩ := one_inv r
    cases bl_ok r1
    exact wC_of call_int1 (.inr ⟨_, rfl, c.here W (rel_int _)⟩)
  · cases h
theorem maxL_spec : ∀ (x : Int) (r : List Int), maxL (x :: r) ∈ x :: r ∧ ∀ y ∈ x :: r, y ≤ maxL (x :: r)
  | x, [] => ⟨by simp [maxL], fun y h => by simp at h; subst h; exact Int.le_refl _⟩
  | x, z :: r => by
    obtain ⟨h1, h2⟩ := maxL_spec z r
    have e : maxL (x :: z :: r) = max x (maxL (z :: r)) := rfl
    rw [e]
    refine ⟨?_, fun y h => ?_⟩
    · by_cases q : x ≤ maxL (z :: r)
      · rw [Int.max_eq_right q]; exact List.mem_cons_of_mem _ h1
      · rw [Int.max_eq_left (by omega)]; exact List.mem_cons_self
    · rcases List.mem_cons.mp h with rfl | h
      · omega
      · have := h2 y h
        omega
theorem minL_spec : ∀ (x : Int) (r : List Int), minL (x :: r) ∈ x :: r ∧ ∀ y ∈ x :: r, minL (x :: r) ≤ y
  | x, [] => ⟨by simp [minL], fun y h => by simp at h; subst h; exact Int.le_refl _⟩
  | x, z :: r => by
    obtain ⟨h1, h2⟩ := minL_spec z r
    have e : minL (x :: z :: r) = min x (minL (z :: r)) := rfl
    rw [e]
    refine ⟨?_, fun y h => ?_⟩
    · by_cases q : x ≤ minL (z :: r)
      · rw [Int.min_eq_left q]; exact List.mem_cons_self
      · rw [Int.min_eq_right (by omega)]; exact List.mem_cons_of_mem _ h1
    · rcases List.mem_cons.mp h with rfl | h
      · omega
      · have := h2 y h
        omega
theorem sc_max (hc : X.calm = true) : SndC X (.builtin "max") bMax := by
  intro F ρ st xs ws v st' H Q W r h c
  unfold bMax at h
  split at h
  · cases h
    obtain ⟨w, u, rfl, r1, r2⟩ := two_inv r
    cases int_ok r1; cases int_ok r2
    exact wC_of (call_max2 hc) ⟨_, _, rfl, c.here W (rel_int _)⟩
  · cases h
    obtain ⟨w, u, z, rfl, r1, r2, r3⟩ := three_inv r
    cases int_ok r1; cases int_ok r2; cases int_ok r3
    exact wC_of (call_max3 hc) ⟨_, _, _, rfl, c.here W (rel_int _)⟩
  · split at h
    · rename_i xs hx
      split at h
      · rename_i i l hl
        cases h
        obtain ⟨w, rfl, r1⟩ := one_inv r
        obtain ⟨a, vs, rfl, hq, r2⟩ := lst_ok W r1 hx
        have e := r2.intsInv hl
        subst e
        refine wC_of (cr_max hc) ⟨a, i :: l, rfl, .inl (.inl hq), Nat.succ_pos _, fun m h1 h2 => ?_⟩
        obtain ⟨s1, s2⟩ := maxL_spec i l
        have e2 : m = maxL (i :: l) := Int.le_antisymm (s2 m h1) (h2 _ s1)
        rw [e2]
        exact c.here W (rel_int _)
      · cases h
    · cases h
  · cases h
theorem sc_min (hc : X.calm = true) : SndC X (.builtin "min") bMin := by
  intro F ρ st xs ws v st' H Q W r h c
  unfold bMin at h
  split at h
  · cases h
    obtain ⟨w, u, rfl, r1, r2⟩ := two_inv r
    cases int_ok r1; cases int_ok r2
    exact wC_of (call_min2 hc) ⟨_, _, rfl, c.here W (rel_int _)⟩
  · cases h
    obtain ⟨w, u, z, rfl, r1, r2, r3⟩ := three_inv r
    cases int_ok r1; cases int_ok r2; cases int_ok r3
    exact wC_of (call_min3 hc) ⟨_, _, _, rfl, c.here W (rel_int _)⟩
  · split at h
    · rename_i xs hx
      split at h
      · rename_i i l hl
        cases h
        obtain ⟨w, rfl, r1⟩ := one_inv r
        obtain ⟨a, vs, rfl, hq, r2⟩ := lst_ok W r1 hx
        have e := r2.intsInv hl
        subst e
        refine wC_of (cr_min hc) ⟨a, i :: l, rfl, .inl (.inl hq), Nat.succ_pos _, fun m h1 h2 => ?_⟩
        obtain ⟨s1, s2⟩ := minL_spec i l
        have e2 : m = minL (i :: l) := Int.le_antisymm (h2 _ s1) (s2 m h1)
        rw [e2]
        exact c.here W (rel_int _)
      · cases h
    · cases h
  · cases h
theorem sc_tuple : SndC X (.type "tuple") bTuple := by
  intro F ρ st xs ws v st' H Q W r h c
  unfold bTuple at h
  split at h
  · cases h
    obtain ⟨w, rfl, r1⟩ := one_inv r
    obtain ⟨p, vs, rfl, q, r2⟩ := tup_ok W r1
    exact wC_of call_tuple_of ⟨p, vs, rfl, .inr ⟨q, c.here W r1⟩⟩
  · split at h
    · rename_i xs hx
      obtain ⟨w, rfl, r1⟩ := one_inv r
      obtain ⟨a, vs, rfl, hq, r2⟩ := lst_ok W r1 hx
      exact wC_of call_tuple_of ⟨a, vs, rfl, .inl ⟨.inl (.inl hq), (mkT_ok W r2 h c).2⟩⟩
    · cases h
  · cases h
theorem sc_list {m : Bool} : SndC X (.type "list") (bList m) := by
  intro F ρ st xs ws v st' H Q W r h c
  unfold bList at h
  split at h
  · split at h
    · rename_i xs hx
      obtain ⟨w, rfl, r1⟩ := one_inv r
      obtain ⟨a, vs, rfl, hq, r2⟩ := seq_ok W r1 hx
      exact wC_of call_list_of ⟨a, vs, rfl, hq, (mkL_ok W r2 h c).2⟩
    · cases h
  · cases h
theorem sortI_uniq {ns ms : List Int} (hp : ms.Perm ns) (hs : ms.Pairwise (· ≤ ·)) : ms = sortI ns := by
  refine List.Perm.eq_of_pairwise (le := fun a b : Int => a ≤ b) (fun a b _ _ h1 h2 => Int.le_antisymm h1 h2) hs ?_ (hp.trans (List.mergeSort_perm ns _).symm)
  have := List.pairwise_mergeSort (le := fun a b : Int => decide (a ≤ b)) (fun a b c h1 h2 => by simp at h1 h2 ⊢; omega) (fun a b => by simp; omega) ns
  unfold sortI
  refine this.imp fun h => by simpa using h
/-- items with what they are, as values and as data -/
structure SIt where
  p : PV
  w : V
  d : PyData
theorem sits {K : PySem.W.Frag} {F : Hp} {ρ : Nat → Addr} {n : Nat} : ∀ {xs : List PV} {ws : List V} {ds : List PyData}, RelPs K F ρ n xs ws → toDs (fun _ => none) xs = some ds →
    ∃ l : List SIt, l.map SIt.p = xs ∧ l.map SIt.w = ws ∧ l.map SIt.d = ds ∧ ∀ t ∈ l, RelP K F ρ n t.p t.w ∧ t.p.toD (fun _ => none) = some t.d
  | [], _, _, r, h => by
    rw [toDs] at h; cases h
    rw [r.inv0]
    exact ⟨[], rfl, rfl, rfl, fun t (z : t ∈ []) => (by cases z)⟩
  | x :: xs, _, _, r, h => by
    obtain ⟨w, ws, rfl, r1, r2⟩ := r.inv
    rw [toDs] at h
    cases e1 : x.toD (fun _ => none) with
    | none => rw [e1] at h; cases h
    | some d =>
      cases e2 : toDs (fun _ => none) xs with
      | none => rw [e1, e2] at h; cases h
      | some ds =>
        rw [e1, e2] at h; cases h
        obtain ⟨l, h1, h2, h3, h4⟩ := sits r2 e2
        refine ⟨⟨x, w, d⟩ :: l, by rw [List.map_cons, h1], by rw [List.map_cons, h2], by rw [List.map_cons, h3], fun t z => ?_⟩
        rcases List.mem_cons.mp z with rfl | z
        · exact ⟨r1, e1⟩
        · exact h4 t z
theorem each_sits : ∀ {l : List SIt} {us : List Value}, Vals (l.map SIt.w) us → PySem.W.EachIs (fun v (t : SIt) => RelV t.w v) us l
  | [], _, h => by cases h; exact .nil
  | t :: l, _, h => by
    rw [List.map_cons] at h
    cases h with
    | cons h1 h2 => exact .cons h1 (each_sits h2)
theorem sits_each : ∀ {l : List SIt} {us : List Value}, PySem.W.EachIs (fun v (t : SIt) => RelV t.w v) us l → Vals (l.map SIt.w) us
  | [], _, h => by cases h; exact .nil
  | t :: l, _, h => by
    cases h with
    | cons h1 h2 => exact .cons h1 (sits_each h2)
theorem rel_sits {K : PySem.W.Frag} {F : Hp} {ρ : Nat → Addr} {n : Nat} : ∀ {l : List SIt}, (∀ t ∈ l, RelP K F ρ n t.p t.w) → RelPs K F ρ n (l.map SIt.p) (l.map SIt.w)
  | [], _ => .nil
  | t :: l, h => .cons (h t List.mem_cons_self) (rel_sits fun u z => h u (List.mem_cons_of_mem _ z))
theorem leP_sits {l : List SIt} (h : ∀ t ∈ l, t.p.toD (fun _ => none) = some t.d) : (l.map SIt.p).mergeSort leP = (l.mergeSort (PySem.W.dataLe false SIt.d)).map SIt.p := by
  symm
  refine List.map_mergeSort ?_
  intro a ha b hb
  unfold leP
  rw [h a ha, h b hb]
  rw [PySem.W.dataLe_eq]
  rfl
/-- sorted(set(e)), tuples of ints -/
theorem snd_sortedSet {m : Bool} {p p2 pos pos2 : Pos} {e : Expr} {A : DE} (hc : X.calm = true) (hu : X.A.units + 65 < cLine) (hgx : Gl X "sorted") (hmx : X.mg "sorted" = none) (hgy : Gl X "set") (hmy : X.mg "set" = none) (ha : SndA X [e] (aCons A aNil))
    (hs : starEach [e] X.env = (false, eval e X.env) :: starEach [] X.env) : SndE X (.Call (.Name "sorted" p) [.Call (.Name "set" p2) [e] [] pos2] [] pos) (dApp (bSortedSet m) (aCons A aNil)) := by
  intro F ρ env st v st' σ H Q W E h c
  obtain ⟨xs, st1, h1, h⟩ := mb_eq h
  refine wE_of (pe_callB (id := "sorted") cr_w hgx hmx (by decide +kernel) (pa_cons pe_w pa_nil rfl) (by decide +kernel) (by decide +kernel) rfl rfl) ?_
  refine wE_of (pe_callTy (T := "set") cr_w hgy hmy (by decide +kernel) pa_w (by decide +kernel) (by decide +kernel) hs rfl) ?_
  refine ha F ρ env st xs st1 σ H _ W E h1 fun F1 ρ1 w1 H1 p1 r1 => ?_
  unfold bSortedSet at h
  split at h
  · split at h
    · rename_i xs hx
      split at h
      · rename_i ks hk
        split at h
        · rename_i ho
          obtain ⟨h64, d, hd, hb⟩ := okTs_iff.mp ho
          obtain ⟨w, rfl, r2⟩ := one_inv r1
          have W1 := p1.wld
          obtain ⟨a, vs, rfl, hq, r3⟩ := lst_ok W1 r2 hx
          obtain ⟨prs, rfl, rfl, hp⟩ := rel_tups hk r3
          refine wC_of (cr_setOfT hc (by omega)) ⟨a, prs, rfl, .inl (.inl hq), fun q z => W1.sub.sqT (hp q z), by rw [List.length_map] at h64; exact h64, fun b L hbn hL hall => ?_⟩
          have P2 := W1.new (o := SetTO X.prog X.w b L) hbn
          refine wC_of (cr_sortedT hc) ⟨b, L, d, bTup, rfl, upd_same, fun q z => P2.wld.sub.sqT (P2.ex.sqT (hp q (hL q z))), hd, fun q z => hb _ (List.mem_map.mpr ⟨q, hL q z, rfl⟩), fun L' p pm nd h64' pw hn => ?_⟩
          have hm : ∀ q ∈ L', q ∈ prs := fun q z => hL q (pm.mem_iff.mp z)
          have hs : (L'.map (·.2)).Pairwise fun a b => lexLe a b = true := by
            rw [List.pairwise_map]
            refine List.Pairwise.imp_of_mem (fun {u v} hu hv huv => ?_) pw
            obtain ⟨l1, b1⟩ := hb _ (List.mem_map.mpr ⟨u, hm u hu, rfl⟩)
            obtain ⟨l2, b2⟩ := hb _ (List.mem_map.mpr ⟨v, hm v hv, rfl⟩)
            exact lexLe_code (l1.trans l2.symm) b1 b2 huv
          have e := sortT_uniq (ks := uniqT (prs.map (·.2))) (perm_uniqT nd fun x => by
            constructor
            · intro z
              obtain ⟨q, hq2, rfl⟩ := List.mem_map.mp z
              exact List.mem_map.mpr ⟨q, hm q hq2, rfl⟩
            · intro z
              obtain ⟨q, hq2, rfl⟩ := List.mem_map.mp z
              exact (pm.map (·.2)).mem_iff.mpr (hall q hq2)) hs
          rw [← e, List.map_map] at h
          exact (mkL_ok P2.wld (tups_rel fun q z => P2.ex.sqT (hp q (hm q z))) h (Ct.of P2 (Ct.of p1 c))).2 p hn
        · cases h
      · cases h
    · cases h
  · cases h

/-! isinstance -/
theorem sq_ty {K : PySem.W.Frag} {H : Hp} {a : Addr} {vs : List V} (h : SqT K H a vs) : TyX K H (.ref a) (.type "tuple") := by
  rcases h with (h | ⟨o, h⟩) | ⟨o, its, n, h, hc, _⟩
  · exact .base (.tup h)
  · exact .fTuple h
  · exact .kTuple h hc
/-- isinstance of a dict -/
theorem call_isiO {X : Cx} : CallR X (.builtin "isinstance") (fun xs H Q => ∃ (x c : V) (T : String) (u : Value) (b : Bool), xs = [x, c] ∧ ClsV c u ∧ (TyX X.K H x (.type T) ∨ ∃ a ob, x = .ref a ∧ H a = some (dO a ob) ∧ ob.cls = .type "dict" ∧ T = "dict") ∧ PySem.W.kitOne X.K (.type T) u = some b ∧ Q (.bl b) H) := by
  intro pins s σ H xs us Q I r h
  obtain ⟨x, c, T, u, b, rfl, k, ty, e, q⟩ := h
  obtain ⟨u1, u2, rfl, r1, r2⟩ := vals2 r
  have e2 := k.eq r2
  subst e2
  rcases ty with ty | ⟨a, ob, rfl, hH, hc, rfl⟩
  · obtain ⟨P, Z, p, hx⟩ := kit_of I r1 ty
    exact PySem.W.kia_one Z I.kIn p e hx fun tk => ⟨.bl b, H, I.tok tk, rfl, q⟩
  · cases r1
    exact PySem.W.kia_one PySem.W.kitx_dict I.kIn ⟨ob, dO_at I hH, hc⟩ e (fun z => nomatch z) fun tk => ⟨.bl b, H, I.tok tk, rfl, q⟩
theorem isTy_ok {F : Hp} {ρ : Nat → Addr} {st : Sto} {H : Hp} {x : PV} {w : V} {t : BTy} {b : Bool} (W : Wld X.K F ρ st H) (r : RelP X.K F ρ st.nxt x w) (h : isTy t st x = some b) :
    ∃ T : String, (TyX X.K H w (.type T) ∨ ∃ a ob, w = .ref a ∧ H a = some (dO a ob) ∧ ob.cls = .type "dict" ∧ T = "dict") ∧ kitB T t.nameS = some b := by
  unfold isTy at h
  split at h
  · cases h
    rw [non_ok r]
    exact ⟨_, .inl (.base .non), by cases t <;> decide +kernel⟩
  · cases h
    rw [bl_ok r]
    exact ⟨_, .inl (.base (.bl _)), by cases t <;> decide +kernel⟩
  · cases h
    rw [int_ok r]
    exact ⟨_, .inl (.base (.int _)), by cases t <;> decide +kernel⟩
  · cases h
    rw [str_ok r]
    exact ⟨_, .inl (.base (.str _)), by cases t <;> decide +kernel⟩
  · cases h
    obtain ⟨p, vs, rfl, q, r2⟩ := tup_ok W r
    exact ⟨_, .inl (sq_ty q), by cases t <;> decide +kernel⟩
  · cases h
    rw [RelP] at r
    obtain ⟨p, vs, rfl, q, r2⟩ := r
    exact ⟨_, .inl (.base (.lst (W.sub _ _ q))), by cases t <;> decide +kernel⟩
  · cases h
  · rename_i ks vs
    cases h
    obtain ⟨p, ob, kws, vws, rfl, hH, _, _, d⟩ := dct_ok (x := .dct ks vs) W r rfl
    exact ⟨"dict", .inr ⟨p, ob, rfl, hH, d.1.1, rfl⟩, by cases t <;> decide +kernel⟩
  · split at h
    · rename_i l _ _ hl
      cases h
      rw [RelP] at r
      obtain ⟨_, rfl⟩ := r
      obtain ⟨_, vs, e, _⟩ := W.cell l _ hl
      exact ⟨_, .inl (.base (.lst e)), by cases t <;> decide +kernel⟩
    · rename_i l _ ks vs hl
      cases h
      rw [RelP] at r
      obtain ⟨_, rfl⟩ := r
      obtain ⟨_, ob, kws, vws, e, _, _, d⟩ := W.cell l _ hl
      exact ⟨"dict", .inr ⟨_, ob, rfl, e, d.1.1, rfl⟩, by cases t <;> decide +kernel⟩
    · cases h
theorem bty_boot (t : BTy) : bootBuiltins t.name = some (.type t.nameS) := by cases t <;> decide +kernel
theorem bty_name (t : BTy) : t.name ≠ "__name__" := by cases t <;> decide +kernel
theorem bty_dbg (t : BTy) : (t.name == ("__debug__" : Str)) = false := by cases t <;> decide +kernel
theorem snd_isi {x : Str} {p p2 : Pos} {t : BTy} (hx : x = "isinstance") (hg : Gl X x) (hm : X.mg x = none) (hg2 : Gl X t.name) (hm2 : X.mg t.name = none) (ha : SndE X a A)
    (he : starEach [a, .Name t.name p2] X.env = (false, eval a X.env) :: starEach [.Name t.name p2] X.env) : SndE X (.Call (.Name x p) [a, .Name t.name p2] [] pos) (dUn (bIsi t) A) := by
  subst hx
  intro F ρ env st v st' σ H Q W E h c
  obtain ⟨z, st1, h1, h⟩ := mb_eq h
  unfold bIsi at h
  cases hb : isTy t st1 z with
  | none => rw [hb] at h; cases h
  | some b =>
    rw [hb] at h; cases h
    have ht : PE X (.Name t.name p2) (tC (.ty t.nameS)) := pe_bltn hg2 hm2 (bty_boot t) rfl (bty_name t) (bty_dbg t)
    refine wE_of (pe_callB call_isiO hg hm (by decide +kernel) (pa_cons pe_w (pa_cons ht pa_nil rfl) he) (by decide +kernel) (by decide +kernel) he rfl) ?_
    refine ha F ρ env st z _ σ H _ W E h1 fun F1 ρ1 w1 H1 p1 r1 => ?_
    obtain ⟨T, ty, k⟩ := isTy_ok p1.wld r1 hb
    exact ⟨w1, _, T, _, b, rfl, .ty _, ty, kit_ty k, (Ct.of p1 c).here p1.wld (rel_bl _)⟩

/-! methods of lists -/
theorem lbs_sub {n : Nat} {xs ys : List PV} (h : ∀ x ∈ ys, x ∈ xs) (q : lbs n xs = true) : lbs n ys = true := by
  rw [lbs_all, List.all_eq_true] at q ⊢
  exact fun x z => q x (h x z)
theorem snd_met0 {id : String} {name : Str} {apos : Pos} {f : Nat → FSem} (slot : Slot "list" name id) (hty : typeOf (.builtin id) = pure (.type "method_descriptor")) (hf : SndM X id f)
    (ha : SndE X a A) (hbase : attributeBase a name X.env (eval a X.env) = eval a X.env) (hline : (apos.endLine == pos.line) = true) : SndE X (.Call (.Attribute a name apos) [] [] pos) (dMetL f A aNil) := by
  intro F ρ env st v st' σ H Q W E h c
  obtain ⟨x, st1, h1, h⟩ := mb_eq h
  obtain ⟨l, st2, h2, h⟩ := mb_eq h
  obtain ⟨rfl, rfl, xs, hl⟩ := asL_eq h2
  have h : f l [] st1 = some (v, st') := h
  refine wE_of (pe_bm0 PySem.F.plainAttrs_list slot hty mr_w pe_w hbase hline) ?_
  refine ha F ρ env st _ st1 σ H _ W E h1 fun F1 ρ1 w1 H1 p1 r1 => ?_
  rw [RelP] at r1
  obtain ⟨_, rfl⟩ := r1
  obtain ⟨_, vs, e, _⟩ := p1.wld.cell l _ hl
  exact ⟨.inl ⟨rfl, vs, .inl (.inl e)⟩, hf F1 ρ1 st1 l [] [] v st' H1 Q p1.wld .nil h (Ct.of p1 c)⟩
theorem snd_met {id : String} {name : Str} {apos : Pos} {es : List Expr} {D : DA} {f : Nat → FSem} (slot : Slot "list" name id) (hty : typeOf (.builtin id) = pure (.type "method_descriptor")) (hf : SndM X id f)
    (ha : SndE X a A) (hes : SndA X (e :: es) D) (hbase : attributeBase a name X.env (eval a X.env) = eval a X.env)
    (hfew : ((backTo pos (starEach (e :: es) X.env)).all (fun x => !x.1) && (backToKw pos (keywordEach [] X.env)).all (fun x => x.1.isSome) && decide ((e :: es).length + ([] : List Keyword).length + (if ([] : List Keyword).isEmpty then 0 else 1) < 30)) = true)
    (hline : (apos.endLine == pos.line) = true) (hs : starEach (e :: es) X.env = (false, eval e X.env) :: starEach es X.env) (hplain : (backTo pos (starEach es X.env)).any (·.1) = false) :
    SndE X (.Call (.Attribute a name apos) (e :: es) [] pos) (dMetL f A D) := by
  intro F ρ env st v st' σ H Q W E h c
  obtain ⟨x, st1, h1, h⟩ := mb_eq h
  obtain ⟨l, st2, h2, h⟩ := mb_eq h
  obtain ⟨rfl, rfl, xs, hl⟩ := asL_eq h2
  obtain ⟨ys, st3, h3, h⟩ := mb_eq h
  refine wE_of (pe_bm PySem.F.plainAttrs_list slot hty mr_w pe_w pa_w hbase hfew hline hs hplain) ?_
  refine ha F ρ env st _ st1 σ H _ W E h1 fun F1 ρ1 w1 H1 p1 r1 => ?_
  have r1' := r1
  rw [RelP] at r1
  obtain ⟨_, rfl⟩ := r1
  obtain ⟨_, vs, e, _⟩ := p1.wld.cell l _ hl
  refine ⟨.inl ⟨rfl, vs, .inl (.inl e)⟩, hes F1 ρ1 env st1 ys st3 σ H1 _ p1.wld (E.step p1) h3 fun F2 ρ2 ws H2 p2 r2 => ?_⟩
  have r3 := r1'.step p2
  rw [RelP] at r3
  rw [r3.2]
  exact hf F2 ρ2 st3 l ys ws v st' H2 Q p2.wld r2 h (Ct.of (p1.trans p2) c)
theorem sm_append : SndM X "list.append" mAppend := by
  intro F ρ st l xs ws v st' H Q W r h c
  unfold mAppend at h
  split at h
  · rename_i y
    split at h
    · rename_i ys hl
      split at h
      · rename_i hz
        cases h
        rw [Bool.and_eq_true, decide_eq_true_eq] at hz
        obtain ⟨w, rfl, r1⟩ := one_inv r
        obtain ⟨_, vs, e, rc⟩ := W.cell l _ hl
        refine wM_of (fun pins s σ H x xs v us Q I r1 r2 h => mt_append pins s σ H x xs v us Q I r1 r2 h) ⟨_, vs, w, rfl, rfl, e, by rw [← rc.length]; exact hz.1, ?_⟩
        refine c _ _ _ _ (W.set hl (c := .lst (ys ++ [y])) (by have := st.wc l _ hl; show lbs _ _ = true; rw [lbs_append, lbs_cons, lbs_nil, hz.2, show lbs st.nxt ys = true from this]; rfl) ⟨_, rfl, rc.append (.cons r1 .nil)⟩) rel_non
      · cases h
    · cases h
  · cases h
theorem sm_pop : SndM X "list.pop" mPop := by
  intro F ρ st l xs ws v st' H Q W r h c
  unfold mPop at h
  split at h
  · split at h
    · rename_i ys hl
      split at h
      · rename_i y hy
        cases h
        cases r.inv0
        obtain ⟨_, vs, e, rc⟩ := W.cell l _ hl
        obtain ⟨w, hw, rw'⟩ := rc.get hy
        refine wM_of (fun pins s σ H x xs v us Q I r1 r2 h => mt_pop pins s σ H x xs v us Q I r1 r2 h) ⟨_, vs, w, rfl, rfl, e, by rw [← rc.length]; exact hw, ?_⟩
        exact c _ _ _ _ (W.set hl (c := .lst ys.dropLast) (lbs_sub (fun x z => List.dropLast_subset _ z) (st.wc l _ hl)) ⟨_, rfl, rc.dropLast⟩) rw'
      · cases h
    · cases h
  · cases h
theorem sm_reverse : SndM X "list.reverse" mReverse := by
  intro F ρ st l xs ws v st' H Q W r h c
  unfold mReverse at h
  split at h
  · split at h
    · rename_i ys hl
      cases h
      cases r.inv0
      obtain ⟨_, vs, e, rc⟩ := W.cell l _ hl
      refine wM_of (fun pins s σ H x xs v us Q I r1 r2 h => mt_reverse pins s σ H x xs v us Q I r1 r2 h) ⟨_, vs, rfl, rfl, e, ?_⟩
      exact c _ _ _ _ (W.set hl (c := .lst ys.reverse) (lbs_sub (fun x z => List.mem_reverse.mp z) (st.wc l _ hl)) ⟨_, rfl, rc.reverse⟩) rel_non
    · cases h
  · cases h

/-! ### calls of the text's own defs -/
/-- the promise: what D computes -/
def spOf (K : PySem.W.Frag) (np : Nat) (D : FSem) : Sp := fun vs H Q _ => vs.length = np ∧ ∃ F ρ st args v st', Wld K F ρ st H ∧ RelPs K F ρ st.nxt args vs ∧ D args st = some (v, st') ∧ Ct K F ρ st H v st' Q
theorem settle_ok {F F1 : Hp} {ρ ρ1 : Nat → Addr} {st st1 st2 : Sto} {H H1 : Hp} {v v' : PV} {w : V} {K : PySem.W.Frag} (p : Pst K F ρ st H F1 ρ1 st1 H1) (r : RelP K F1 ρ1 st1.nxt v w) (h : settle st.nxt v st1 = some (v', st2)) :
    ∃ F2, Pst K F ρ st H F2 ρ1 st2 H1 ∧ RelP K F2 ρ1 st2.nxt v' w := by
  unfold settle at h
  cases e : v.res st.nxt st1.cs with
  | none => rw [e] at h; cases h
  | some u =>
    rw [e] at h; cases h
    obtain ⟨F2, s, p2, f, _⟩ := p.drop rfl
    exact ⟨F2, p2, r.res p.wld s f e⟩
theorem snd_call {x : Str} {p : Pos} {es : List Expr} {D : DA} {f : Addr} {fd : FuncData} {ps : List Str} {k np : Nat} {S : FSem} {adopt : Bool} (G : FnOk X.prog X.w X.K X.mg X.base CX0 k f fd ps (spOf X.K np S)) (hr : Room k X.A) (hg : Gl X x) (hm : X.mg x = some (.ref f)) (hk : PySem.W.keepIn X.K (.ref f) = true) (hb : Binds X.K fd ps [])
    (hnp : (e :: es).length = np) (ha : SndA X (e :: es) D) (hlen : ∀ env st xs st', D env st = some (xs, st') → xs.length = np) (hdb : (x == ("__debug__" : Str)) = false) (he : starEach (e :: es) X.env = (false, eval e X.env) :: starEach es X.env) (hpl : (backTo pos (starEach es X.env)).any (·.1) = false) :
    SndE X (.Call (.Name x p) (e :: es) [] pos) (dCall S adopt D) := by
  intro F ρ env st v st' σ H Q W E h c
  obtain ⟨xs, st1, h1, h⟩ := mb_eq h
  obtain ⟨u, st2, h2, h⟩ := mb_eq h
  refine wE_of (pe_call G hr hg hm hk hb .nil pass0 pa_w hdb he hpl) ?_
  refine ha F ρ env st xs st1 σ H _ W E h1 fun F1 ρ1 ws H1 p1 r1 => ?_
  rw [List.append_nil]
  refine ⟨by rw [← r1.length]; exact hlen _ _ _ _ h1, F1, ρ1, st1, xs, u, st2, p1.wld, r1, h2, fun F2 ρ2 w H2 p2 r2 => ?_⟩
  split at h
  · cases h
    exact c F2 ρ2 w H2 (p1.trans p2) r2
  · obtain ⟨F3, p3, r3⟩ := settle_ok p2 r2 h
    exact c F3 ρ2 w H2 (p1.trans p3) r3
end
end DL

/-! DLM: sorted of a dict, sum, more methods of lists. -/
namespace DL
open PySem PySem.Spec PyProof.Rows L2

mutual
theorem reads_lt {h : Heap} : ∀ {v : Value} {d : PyData} {as : List Addr}, Reads h v d as → ∀ b ∈ as, b < h.objs.size
  | _, _, _, .none, _, z => by cases z
  | _, _, _, .bool _, _, z => by cases z
  | _, _, _, .int _ _, _, z => by cases z
  | _, _, _, .str _ _, _, z => by cases z
  | _, _, _, .list h1 _ _ h4, b, z => by
    rcases List.mem_cons.mp z with rfl | z
    · exact Heap.lt_size h1
    · exact readsAll_lt h4 b z
  | _, _, _, .tuple _ _ _ h4, b, z => readsAll_lt h4 b z
  | _, _, _, .dict h1 _ _ h4 h5, b, z => by
    rcases List.mem_append.mp z with z | z
    · rcases List.mem_cons.mp z with rfl | z
      · exact Heap.lt_size h1
      · exact readsAll_lt h4 b z
    · exact readsAll_lt h5 b z
theorem readsAll_lt {h : Heap} : ∀ {vs : List Value} {ds : List PyData} {as : List Addr}, ReadsAll h vs ds as → ∀ b ∈ as, b < h.objs.size
  | _, _, _, .nil, _, z => by cases z
  | _, _, _, .cons h1 h2, b, z => by
    rcases List.mem_append.mp z with z | z
    · exact reads_lt h1 b z
    · exact readsAll_lt h2 b z
end
section
variable {prog : Program} {w : World} {A : Around} {E : Value → Shared → Prop} {s : Shared} {β : Type} {bs : List β} {enc : β → PyData} {R : Value → β → Prop}
open PySem.W PySem.Calls PyProof.V in
/-- what is collected off a dict, in a heap that has grown -/
theorem collect_dict {T : String} {r d : Addr} {n : Nat} {P : Nat → Value → Prop} {OK : Heap → Prop} {Q : List Value → Shared → Prop} (K : KdlSrc prog w T r d n P OK) (hh : A.handled = none) (hok : OK s.heap) (hn : n ≤ sizeLine)
    (h : ∀ (h' : Heap) (tk : Nat) (acc : Array Value), (∀ b u, s.heap.get? b = some u → h'.get? b = some u) → s.heap.objs.size ≤ h'.objs.size → ItemsOf P acc n → Q acc.toList { s with heap := h', toks := tk }) : wpAny (model prog w) A (collect (.ref r)) Q E s := by
  have hlt := K.there _ hok
  have key := kdl_extend (A := A) (s := { s with heap := s.heap.push { cls := .type "list", data := .seq ([] : List Value).toArray } })
    (R := fun (q : Result) (s' : Shared) => ∃ (h' : Heap) (tk : Nat) (acc' : Array Value) (c' : Nat), q = .ok (.ret (.ref s.heap.objs.size)) ∧ s' = { s with heap := h', toks := tk } ∧
      (∀ b u, s.heap.get? b = some u → h'.get? b = some u) ∧ h'.get? s.heap.objs.size = some { cls := .type "list", dict := none, data := .seq acc' c', slots := #[] } ∧ ItemsOf P acc' n)
    K hh (K.keep _ _ hok fun b _ u q => Heap.get?_push_of_some _ q) s.heap.objs.size (Nat.ne_of_gt hlt.1) (Nat.ne_of_gt hlt.2) (.ref s.heap.objs.size) 0 (Heap.get?_push_size _ rfl)
    (fun h' tk acc' c' hk hS hacc => ⟨h', tk, acc', c', rfl, rfl, fun b u q => hk b u (Nat.ne_of_lt (Heap.lt_size q)) (Heap.get?_push_of_some _ q), hS, hacc⟩) hn
  unfold collect
  refine wpAny_bind (wpAny_runValue (codeAny_builtin entry_proto_collect' ?_))
  rw [Around.under_plainId PySem.F.plain_proto_collect _]
  show wpAny _ A.in1 (newList [] >>= fun l => again (.builtin "list.__iadd__" ⟨[l, .ref r], []⟩)) _ _ s
  refine wpAny_bind (wpAny_newObj_type ?_)
  refine wpAny_pure ⟨plainId_quiet PySem.F.plain_list_iadd _, codeAny_builtin entry_list_iadd' ?_⟩
  rw [Around.under_plainId PySem.F.plain_list_iadd _]
  show wpAny _ A.in1 (Builtin.List.listExtendWith (.ref s.heap.objs.size) (.ref r) (.ref s.heap.objs.size)) _ _ _
  refine wpAny_mono key (fun fin s' x => ?_) fun e s' x => ?_
  · cases fin with
    | done f =>
      obtain ⟨h', tk, acc', c', e, rfl, hk, hS', hacc⟩ := x
      cases e
      show wpAny _ A (load s.heap.objs.size >>= _) _ _ _
      exact wpAny_bind (wpAny_load hS' (wpAny_pure (h h' tk acc' hk (Nat.le_of_lt (Heap.lt_size hS')) hacc)))
    | again c =>
      refine ⟨x.1, codeAny_mono x.2 fun q s2 y => ?_⟩
      obtain ⟨h', tk, acc', c', rfl, rfl, hk, hS', hacc⟩ := y
      show wpAny _ A (load s.heap.objs.size >>= _) _ _ _
      exact wpAny_bind (wpAny_load hS' (wpAny_pure (h h' tk acc' hk (Nat.le_of_lt (Heap.lt_size hS')) hacc)))
  · obtain ⟨_, _, _, _, e', _⟩ := x
    cases e'
open PySem.W PySem.Calls PyProof.V in
theorem sorted_dict {d : Addr} {o : Obj} {es : Array DictEntry} {ep : Nat} {Q : Value → Shared → Prop} (hh : A.handled = none) (lo : (d == sysModules) = false) (hd : s.heap.get? d = some o) (hx : o.ExactDict) (hdat : o.data = .dict es ep) (hn : es.size ≤ sizeLine)
    (e : EachIs R (es.toList.map (·.key)) bs) (er : EachIs (fun v b => ∃ as, Reads s.heap v (enc b) as) (es.toList.map (·.key)) bs) (hal : AllAlike (bs.map enc)) (hk : Sortable (bs.map enc)) (hL : bs.length ≤ sizeLine)
    (hu : ∀ b, b ∈ bs → A.units + 2 + (enc b).depth < cLine)
    (h : ∀ (h' : Heap) (tk : Nat) (D : Addr) (out : List Value), (∀ b u, s.heap.get? b = some u → h'.get? b = some u) → s.heap.objs.size ≤ D → EachIs R out (bs.mergeSort (dataLe false enc)) → (∃ c, h'.get? D = some (seqObj "list" (List.toArray out) c)) → Q (.ref D) { s with heap := h', toks := tk }) :
    wpAny (model prog w) A (call (.builtin "sorted") [.ref d]) Q E s := by
  refine call_function_entry kind_sorted plain_sorted entry_sorted (args_sorted1 _) ?_
  unfold Builtin.«sorted»
  refine wpAny_bind (m := checkCount "sorted" 1 1 _) (wpAny_pure ?_)
  refine wpAny_bind (collect_dict (A := A.in1) (L2.kdl_raw lo hx hdat) hh hd hn fun h' tk acc hk' hsz hacc => ?_)
  have el : acc.toList = es.toList.map (·.key) := by
    apply List.ext_getElem?
    intro j
    rw [List.getElem?_map]
    cases ej : acc.toList[j]? with
    | none =>
      have : acc.toList.length ≤ j := List.getElem?_eq_none_iff.mp ej
      rw [List.getElem?_eq_none (by have := hacc.1; rw [Array.length_toList] at *; omega)]; rfl
    | some v =>
      obtain ⟨en, e1, e2⟩ := hacc.2 j v (by rw [← Array.getElem?_toList]; exact ej)
      rw [Array.getElem?_toList, e1, e2]; rfl
  have hl : acc.toList.length = es.size := by rw [Array.length_toList]; exact hacc.1
  refine wpAny_bind (wpAny_newList ?_ (by rw [hl]; exact hn))
  have hp : ∀ b u, s.heap.get? b = some u → (h'.push { cls := .type "list", data := .seq acc.toList.toArray }).get? b = some u := fun b u q => Heap.get?_push_of_some _ (hk' b u q)
  have er' : EachIs (fun v b => ∃ as, Reads (h'.push { cls := .type "list", data := .seq acc.toList.toArray }) v (enc b) as ∧ h'.objs.size ∉ as) acc.toList bs := by
    have er0 : EachIs (fun v b => ∃ as, Reads (h'.push { cls := .type "list", data := .seq acc.toList.toArray }) v (enc b) as ∧ h'.objs.size ∉ as) (es.toList.map (·.key)) bs := er.mono fun v b ⟨as, r⟩ => ⟨as, Reads.keeps hp r, fun z => absurd (Nat.lt_of_lt_of_le (reads_lt r _ z) hsz) (Nat.lt_irrefl _)⟩
    rw [← el] at er0
    exact er0
  have key := list_sort_data (prog := prog) (w := w) (A := A.in1) (E := E) (s := { s with heap := h'.push { cls := .type "list", data := .seq acc.toList.toArray }, toks := tk }) (a := h'.objs.size) (vs := acc.toList) (n := 0) (R := R) (enc := enc) (bs := bs)
    (Q := fun _ s' => Q (.ref h'.objs.size) s') (Heap.get?_push_size _ rfl) (by rw [el]; exact e) er' hal hk hL (fun b z => by have := hu b z; show A.units + 1 + 1 + (enc b).depth < cLine; omega) fun out ho eo => ?_
  · refine wpAny_bind (wpAny_holding (wpAny_mono key (fun _ s' x => ?_) fun _ _ e => e))
    exact wpAny_pure ⟨_, rfl, x⟩
  · refine h _ tk h'.objs.size out (fun b u q => ?_) hsz eo (sortedHeap_at (n := 0) (Heap.get?_push_size _ rfl))
    have hlt := Heap.lt_size (hk' b u q)
    rw [sortedHeap_old (Nat.ne_of_lt hlt) (by rw [size_push']; exact Nat.lt_succ_of_lt hlt)]
    exact hp b u q
end
section
variable {X : Cx}
theorem esr_keys : ∀ {ks : List PV} {kws vws : List V} {es : List DictEntry}, EsR ks kws vws es → Vals kws (es.map (·.key))
  | [], _, _, _, h => by
    obtain ⟨rfl, _, rfl⟩ := h
    exact .nil
  | k :: ks, _, _, _, h => by
    obtain ⟨a, as, b, bs, e, es, rfl, _, rfl, _, h4, _, h⟩ := h
    exact .cons h4 (esr_keys h)
theorem esr_len : ∀ {ks : List PV} {kws vws : List V} {es : List DictEntry}, EsR ks kws vws es → es.length = ks.length
  | [], _, _, _, h => by
    obtain ⟨_, _, rfl⟩ := h
    rfl
  | k :: ks, _, _, _, h => by
    obtain ⟨a, as, b, bs, e, es, _, _, rfl, _, _, _, h⟩ := h
    rw [List.length_cons, List.length_cons, esr_len h]
theorem each_reads {pins : List (Addr × Obj)} {σ : L2.St} {s : Shared} {F : Hp} {ρ : Nat → Addr} {n : Nat} {H : Hp} (I : Inv X pins σ H s) (sub : Sub F H) : ∀ {l : List SIt} {its : List Value}, (∀ t ∈ l, RelP X.K F ρ n t.p t.w ∧ t.p.toD (fun _ => none) = some t.d) → Vals (l.map SIt.w) its → PySem.W.EachIs (fun v (t : SIt) => ∃ as, Reads s.heap v t.d as) its l
  | [], _, _, h => by cases h; exact .nil
  | t :: l, _, hl, h => by
    rw [List.map_cons] at h
    cases h with
    | cons h1 h2 =>
      obtain ⟨q1, q2⟩ := hl t List.mem_cons_self
      exact .cons (Dp.reads I _ _ _ (dp_ok sub q1 q2) h1) (each_reads I sub (fun u z => hl u (List.mem_cons_of_mem _ z)) h2)
theorem sc_sorted {m : Bool} (hc : X.calm = true) (hu : X.A.units + 65 < cLine) : SndC X (.builtin "sorted") (bSorted m) := by
  intro F ρ st xs ws v st' H Q W r h c
  unfold bSorted at h
  split at h
  · split at h
    · rename_i xs hx
      unfold sortGo at h
      split at h
      · rename_i ds hds
        split at h
        · rename_i ho
          obtain ⟨o1, o2, o3, o4⟩ := okSort_iff.mp ho
          obtain ⟨w, rfl, r1⟩ := one_inv r
          obtain ⟨a, vs, rfl, hq, r2⟩ := lst_ok W r1 hx
          obtain ⟨l, rfl, rfl, rfl, hl⟩ := sits r2 hds
          rw [leP_sits fun t z => (hl t z).2] at h
          intro pins s σ us I ru
          obtain ⟨u, rfl, ru1⟩ := vals1 ru
          obtain rfl : u = Value.ref a := ru1
          obtain ⟨hz, its, k, rv, hg⟩ := (show ObjOk X.prog X.w H s.heap a (.lst _) from I.hok a _ hq)
          have er : PySem.W.EachIs (fun v (t : SIt) => ∃ as, Reads s.heap v t.d as) its l := each_reads I W.sub hl rv
          refine PySem.W.sorted_data (enc := SIt.d) ⟨_, hg, rfl, k, rfl⟩ (each_sits rv) er o1 o2 (by rw [List.length_map] at o3; exact o3) (fun b z => by have h30 := o4 b.d (List.mem_map.mpr ⟨b, z, rfl⟩); show X.A.units + 2 + b.d.depth < cLine; omega) fun out ho1 ho2 => ?_
          have hlen : (l.mergeSort (PySem.W.dataLe false SIt.d)).length = l.length := List.length_mergeSort _
          have hlp : ∀ t ∈ l.mergeSort (PySem.W.dataLe false SIt.d), RelP X.K F ρ st.nxt t.p t.w := fun t z => (hl t (List.mem_mergeSort.mp z)).1
          obtain ⟨hw, hq'⟩ := mkL_ok W (rel_sits hlp) h c
          obtain ⟨ep, he'⟩ := PyProof.Rows.sortedAll_at s.heap its (List.toArray out)
          exact ⟨.ref _, upd H (s.heap.objs.size + 1) (.lst ((l.mergeSort (PySem.W.dataLe false SIt.d)).map SIt.w)), I.laid (t' := s.toks) (fun _ _ => PyProof.Rows.sortedAll_old) (Nat.le_succ _) ⟨hw, out, ep, sits_each ho2, he'⟩, rfl, hq' _ (I.hok.fresh (Nat.le_succ _))⟩
        · cases h
      · cases h
    · split at h
      · rename_i ks vs hx
        unfold sortGo at h
        split at h
        · rename_i ds hds
          split at h
          · rename_i ho
            obtain ⟨o1, o2, o3, o4⟩ := okSort_iff.mp ho
            obtain ⟨w, rfl, r1⟩ := one_inv r
            obtain ⟨a, ob, kws, vws, rfl, hq, rk, rv, d⟩ := dct_ok W r1 hx
            obtain ⟨l, rfl, rfl, rfl, hl⟩ := sits rk hds
            rw [leP_sits fun t z => (hl t z).2] at h
            intro pins s σ us I ru
            obtain ⟨u, rfl, ru1⟩ := vals1 ru
            obtain rfl : u = Value.ref a := ru1
            obtain ⟨dx, ⟨es, ep, hdat, he⟩, hs, hsz, nd⟩ := d
            have hek := esr_keys he
            have er : PySem.W.EachIs (fun v (t : SIt) => ∃ as, Reads s.heap v t.d as) (es.toList.map (·.key)) l := each_reads I W.sub hl hek
            refine sorted_dict (I.ok.hd hc) hs (dO_at I hq) dx hdat (by rw [← Array.length_toList, esr_len he]; exact hsz) (each_sits hek) er o1 o2 (by rw [List.length_map] at o3; exact o3) (fun b z => by have h30 := o4 b.d (List.mem_map.mpr ⟨b, z, rfl⟩); omega) fun h' tk D out hk hD ho2 hat => ?_
            have hlp : ∀ t ∈ l.mergeSort (PySem.W.dataLe false SIt.d), RelP X.K F ρ st.nxt t.p t.w := fun t z => (hl t (List.mem_mergeSort.mp z)).1
            obtain ⟨hw, hq'⟩ := mkL_ok W (rel_sits hlp) h c
            exact ⟨.ref _, upd H D (.lst ((l.mergeSort (PySem.W.dataLe false SIt.d)).map SIt.w)), I.laid (t' := tk) hk hD ⟨hw, out, hat.choose, sits_each ho2, hat.choose_spec⟩, rfl, hq' _ (I.hok.fresh hD)⟩
          · cases h
        · cases h
      · cases h
  · cases h

theorem ints_map : ∀ {xs : List PV} {ns : List Int}, intsOf xs = some ns → xs = ns.map PV.int
  | [], _, h => by cases h; rfl
  | x :: xs, ns, h => by
    cases x with
    | int i =>
      have h : (intsOf xs).map (i :: ·) = some ns := h
      cases e : intsOf xs with
      | none => rw [e] at h; cases h
      | some m =>
        rw [e] at h; cases h
        rw [List.map_cons, ← ints_map e]
    | _ => cases h
theorem rel_ints {K : PySem.W.Frag} {F : Hp} {ρ : Nat → Addr} {n : Nat} : ∀ {ns : List Int} {ws : List V}, RelPs K F ρ n (ns.map PV.int) ws → ws = ns.map V.int
  | [], _, r => r.inv0
  | i :: ns, _, r => by
    obtain ⟨w, ws, rfl, r1, r2⟩ := r.inv
    rw [int_ok r1, rel_ints r2]; rfl
theorem sc_sum (hc : X.calm = true) : SndC X (.builtin "sum") bSum := by
  intro F ρ st xs ws v st' H Q W r h c
  unfold bSum at h
  split at h
  · split at h
    · rename_i xs hx
      split at h
      · rename_i ns hn
        cases h
        obtain ⟨w, rfl, r1⟩ := one_inv r
        obtain ⟨a, vs, rfl, hq, r2⟩ := lst_ok W r1 hx
        cases ints_map hn
        cases rel_ints r2
        exact wC_of (cr_sum hc) ⟨a, ns, rfl, .inl (.inl hq), c.here W (rel_int _)⟩
      · cases h
    · cases h
  · cases h
theorem RelPs.erase {K : PySem.W.Frag} {F : Hp} {ρ : Nat → Addr} {n : Nat} {xs : List PV} {vs : List V} (r : RelPs K F ρ n xs vs) (k : Nat) : RelPs K F ρ n (xs.eraseIdx k) (vs.eraseIdx k) := by
  rw [List.eraseIdx_eq_take_drop_succ, List.eraseIdx_eq_take_drop_succ]
  exact (r.take k).append (r.drop (k + 1))
theorem sm_popAt : SndM X "list.pop" mPopAt := by
  intro F ρ st l xs ws v st' H Q W r h c
  unfold mPopAt at h
  split at h
  · rename_i i
    split at h
    · rename_i ys hl
      split at h
      · rename_i k hk
        split at h
        · rename_i y hy
          split at h
          · rename_i hr
            cases h
            have hb := okRng_iff.mp hr
            obtain ⟨w, rfl, r1⟩ := one_inv r
            cases int_ok r1
            obtain ⟨_, vs, e, rc⟩ := W.cell l _ hl
            obtain ⟨w, hw, rw'⟩ := rc.get hy
            refine wM_of (fun pins s σ H x xs v us Q I r1 r2 h => mt_popAt pins s σ H x xs v us Q I r1 r2 h) ⟨_, vs, i, k, w, rfl, rfl, e, by omega, by omega, by rw [← rc.length]; exact hk, hw, ?_⟩
            exact c _ _ _ _ (W.set hl (c := .lst (ys.eraseIdx k)) (lbs_sub (fun x z => List.mem_of_mem_eraseIdx z) (st.wc l _ hl)) ⟨_, rfl, rc.erase k⟩) rw'
          · cases h
        · cases h
      · cases h
    · cases h
  · cases h
theorem sm_insert : SndM X "list.insert" mInsert := by
  intro F ρ st l xs ws v st' H Q W r h c
  unfold mInsert at h
  split at h
  · rename_i i y
    split at h
    · rename_i ys hl
      split at h
      · rename_i hb
        cases h
        simp only [Bool.and_eq_true, decide_eq_true_eq] at hb
        obtain ⟨⟨⟨h1, h2⟩, h3⟩, h4⟩ := hb
        have hb := okRng_iff.mp h3
        obtain ⟨w1, w2, rfl, r1, r2⟩ := two_inv r
        cases int_ok r1
        obtain ⟨_, vs, e, rc⟩ := W.cell l _ hl
        refine wM_of (fun pins s σ H x xs v us Q I r1 r2 h => mt_insert pins s σ H x xs v us Q I r1 r2 h) ⟨_, vs, i, w2, rfl, rfl, e, by rw [← rc.length]; exact h1, h4, by omega, ?_⟩
        have hw : lbs st.nxt ys = true := st.wc l _ hl
        refine c _ _ _ _ (W.set hl (c := .lst (ys.take i.toNat ++ [y] ++ ys.drop i.toNat)) ?_ ⟨_, rfl, ((rc.take i.toNat).append (.cons r2 .nil)).append (rc.drop i.toNat)⟩) rel_non
        show lbs _ _ = true
        rw [lbs_append, lbs_append, lbs_cons, lbs_nil, h2, lbs_sub (fun x z => List.take_subset _ _ z) hw, lbs_sub (fun x z => List.drop_subset _ _ z) hw]; rfl
      · cases h
    · cases h
  · cases h
theorem sm_extend : SndM X "list.extend" mExtend := by
  intro F ρ st l xs ws v st' H Q W r h c
  unfold mExtend at h
  split at h
  · rename_i y
    split at h
    · rename_i ys hl
      split at h
      · rename_i zs hz
        split at h
        · rename_i hb
          cases h
          rw [Bool.and_eq_true, decide_eq_true_eq] at hb
          obtain ⟨w, rfl, r1⟩ := one_inv r
          obtain ⟨b, vs2, rfl, hq, r2⟩ := lst_ok W r1 hz
          obtain ⟨_, vs, e, rc⟩ := W.cell l _ hl
          have hw : lbs st.nxt ys = true := st.wc l _ hl
          refine wM_of (fun pins s σ H x xs v us Q I r1 r2 h => mt_extend pins s σ H x xs v us Q I r1 r2 h) ⟨_, b, vs, vs2, rfl, rfl, e, hq, by rw [← rc.length, ← r2.length]; exact hb.1, ?_⟩
          refine c _ _ _ _ (W.set hl (c := .lst (ys ++ zs)) ?_ ⟨_, rfl, rc.append r2⟩) rel_non
          show lbs _ _ = true
          rw [lbs_append, hw, hb.2]; rfl
        · cases h
      · cases h
    · cases h
  · cases h
end
end DL

/-! DL4: what is walked, targets, comprehensions, statements, loops. -/
namespace DL
open PySem PySem.Spec PyProof.Rows L2

section
variable {X : Cx}
/-- an iterator that gives the items -/
def Drv (K : PySem.W.Frag) (F : Hp) (ρ : Nat → Addr) (n : Nat) (its : Its) (J : It) : Prop :=
  ∀ F2 ρ2 st2 H2 (i : Nat), Sub F F2 → (∀ l, l < n → ρ2 l = ρ l) → n ≤ st2.nxt → Wld K F2 ρ2 st2 H2 → its.ok st2 →
    (∀ x, its.items[i]? = some x → J.go i H2 ∧ ∀ w H3, J.yld i H2 w H3 → ∃ F3, Pst K F2 ρ2 st2 H2 F3 ρ2 st2 H3 ∧ RelP K F3 ρ2 st2.nxt x w) ∧ (its.items.length ≤ i → J.stop i H2)
def SndI (X : Cx) (tg it : Expr) (D : DI) : Prop := ∀ F ρ env st its st' σ H R, Wld X.K F ρ st H → ERel X.K F ρ st.nxt env σ → D env st = some (its, st') →
  (∀ F' ρ' J H', Pst X.K F ρ st H F' ρ' st' H' → Drv X.K F' ρ' st'.nxt its J → R J H') → wI X tg it σ H R
/-- σ' is σ but for the slots js -/
def SameBut (js : List Nat) (σ σ' : L2.St) : Prop := σ'.length = σ.length ∧ ∀ j, j ∉ js → σ'[j]? = σ[j]?
theorem SameBut.refl {js : List Nat} {σ : L2.St} : SameBut js σ σ := ⟨rfl, fun _ _ => rfl⟩
theorem SameBut.set {i : Nat} {σ : L2.St} {v : Option V} : SameBut [i] σ (σ.set i v) := ⟨List.length_set, fun j h => List.getElem?_set_ne (fun e => h (by simp [e]))⟩
theorem SameBut.trans {js ks : List Nat} {σ σ1 σ2 : L2.St} (a : SameBut js σ σ1) (b : SameBut ks σ1 σ2) : SameBut (js ++ ks) σ σ2 :=
  ⟨b.1.trans a.1, fun j h => by rw [List.mem_append, not_or] at h; rw [b.2 j h.2, a.2 j h.1]⟩
theorem wipe_get : ∀ (us : List Nat) (τ : L2.St) (j : Nat), (L2.wipe τ us)[j]? = if j ∈ us ∧ j < τ.length then some none else τ[j]?
  | [], τ, j => by simp [L2.wipe]
  | u :: us, τ, j => by
    rw [L2.wipe]
    by_cases q : u = j
    · subst q
      by_cases hl : u < τ.length
      · rw [List.getElem?_set_self (by rw [L2.wipe_length]; exact hl), if_pos ⟨List.mem_cons_self, hl⟩]
      · rw [List.getElem?_eq_none (by rw [List.length_set, L2.wipe_length]; omega), if_neg (fun z => hl z.2), List.getElem?_eq_none (by omega)]
    · rw [List.getElem?_set_ne q, wipe_get us τ j]
      have : (j ∈ u :: us) ↔ j ∈ us := by simp [Ne.symm q]
      simp only [this]
theorem wipe_wipe (σ : L2.St) (vs : List Nat) : L2.wipe (L2.wipe σ vs) vs = L2.wipe σ vs := by
  apply List.ext_getElem?
  intro j
  rw [wipe_get, wipe_get, L2.wipe_length]
  split <;> rfl
theorem SameBut.wipe {js vs : List Nat} {σ σ' : L2.St} (h : SameBut js σ σ') (hs : ∀ j ∈ js, j ∈ vs) : L2.wipe σ' vs = L2.wipe σ vs := by
  apply List.ext_getElem?
  intro j
  rw [wipe_get, wipe_get, h.1]
  split
  · rfl
  · rename_i q
    by_cases z : j ∈ js
    · have z2 := hs j z
      have : ¬ j < σ.length := fun w => q ⟨z2, w⟩
      rw [List.getElem?_eq_none (l := σ') (by rw [h.1]; omega), List.getElem?_eq_none (by omega)]
    · exact h.2 j z
def SndG (X : Cx) (tg : Expr) (G : DG) (js : List Nat) : Prop := ∀ F ρ env st v w e' st' σ H Q, Wld X.K F ρ st H → ERel X.K F ρ st.nxt env σ → RelP X.K F ρ st.nxt v w → G v env st = some (e', st') →
  (∀ F' ρ' σ' H', Pst X.K F ρ st H F' ρ' st' H' → ERel X.K F' ρ' st'.nxt e' σ' → SameBut js σ σ' → Q σ' H') → wG X tg w σ H Q
def SndGs (X : Cx) (ts : List Expr) (G : List PV → Env → M Env) (js : List Nat) : Prop := ∀ F ρ env st vs ws e' st' σ H Q, Wld X.K F ρ st H → ERel X.K F ρ st.nxt env σ → RelPs X.K F ρ st.nxt vs ws → G vs env st = some (e', st') →
  (∀ F' ρ' σ' H', Pst X.K F ρ st H F' ρ' st' H' → ERel X.K F' ρ' st'.nxt e' σ' → SameBut js σ σ' → Q σ' H') → wGs X ts ws σ H Q
variable {pos : Pos} {a b c e tg : Expr} {A B C : DE}

/-! ### what is walked -/
theorem drv_val {K : PySem.W.Frag} {F : Hp} {ρ : Nat → Addr} {n : Nat} {xs : List PV} {p : Addr} {vs : List V} (h : F p = some (.lst vs)) (r : RelPs K F ρ n xs vs) : Drv K F ρ n ⟨xs, none⟩ (Itl K p) := by
  intro F2 ρ2 st2 H2 i s hr hn W _
  have hH : SqL K H2 p vs := .inl (.inl (W.sub _ _ (s _ _ h)))
  refine ⟨fun x hx => ?_, fun hl => ⟨vs, hH, by rw [← r.length]; exact hl⟩⟩
  obtain ⟨w, hw, rw'⟩ := r.get hx
  refine ⟨⟨vs, w, hH, hw⟩, fun u H3 hy => ?_⟩
  obtain ⟨rfl, hy⟩ := hy
  have e := hy vs hH
  rw [hw] at e; cases e
  exact ⟨F2, Pst.refl W, rw'.mono s hr hn⟩
theorem drv_tup {K : PySem.W.Frag} {F : Hp} {ρ : Nat → Addr} {n : Nat} {xs : List PV} {p : Addr} {vs : List V} (h : SqT K F p vs) (r : RelPs K F ρ n xs vs) : Drv K F ρ n ⟨xs, none⟩ (Itt K p) := by
  intro F2 ρ2 st2 H2 i s hr hn W _
  have hH : SqT K H2 p vs := W.sub.sqT (s.sqT h)
  refine ⟨fun x hx => ?_, fun hl => ⟨vs, hH, by rw [← r.length]; exact hl⟩⟩
  obtain ⟨w, hw, rw'⟩ := r.get hx
  refine ⟨⟨vs, w, hH, hw⟩, fun u H3 hy => ?_⟩
  obtain ⟨rfl, hy⟩ := hy
  have e := hy vs hH
  rw [hw] at e; cases e
  exact ⟨F2, Pst.refl W, rw'.mono s hr hn⟩
theorem drv_loc {K : PySem.W.Frag} {F : Hp} {ρ : Nat → Addr} {n l : Nat} {xs : List PV} (hl : l < n) : Drv K F ρ n ⟨xs, some (l, .lst xs)⟩ (Itl K (ρ l)) := by
  intro F2 ρ2 st2 H2 i s hr hn W ok
  have ok : st2.cs l = some (.lst xs) := ok
  obtain ⟨_, vs, e, r⟩ := W.cell l _ ok
  rw [hr l hl] at e
  have hH : SqL K H2 (ρ l) vs := .inl (.inl e)
  refine ⟨fun x hx => ?_, fun hl => ⟨vs, hH, by rw [← r.length]; exact hl⟩⟩
  obtain ⟨w, hw, rw'⟩ := r.get hx
  refine ⟨⟨vs, w, hH, hw⟩, fun u H3 hy => ?_⟩
  obtain ⟨rfl, hy⟩ := hy
  have e := hy vs hH
  rw [hw] at e; cases e
  exact ⟨F2, Pst.refl W, rw'⟩
theorem drv_rng {K : PySem.W.Frag} {F : Hp} {ρ : Nat → Addr} {n : Nat} {lo hi : Int} : Drv K F ρ n ⟨rng lo hi, none⟩ (Itr lo (hi - lo).toNat) := by
  intro F2 ρ2 st2 H2 i s hr hn W _
  refine ⟨fun x hx => ?_, fun hl => ?_⟩
  · have hx : (rng lo hi)[i]? = some x := hx
    unfold rng at hx
    rw [List.getElem?_map] at hx
    by_cases hi' : i < (hi - lo).toNat
    · rw [List.getElem?_range hi'] at hx
      cases hx
      refine ⟨hi', fun u H3 hy => ?_⟩
      obtain ⟨rfl, rfl⟩ := hy
      exact ⟨F2, Pst.refl W, rel_int _⟩
    · rw [List.getElem?_eq_none (by rw [List.length_range]; omega)] at hx
      cases hx
  · have hl : (rng lo hi).length ≤ i := hl
    unfold rng at hl
    rw [List.length_map, List.length_range] at hl
    exact hl
theorem drv_rev {K : PySem.W.Frag} {F : Hp} {ρ : Nat → Addr} {n : Nat} {xs : List PV} {p : Addr} {vs : List V} (h : F p = some (.lst vs)) (r : RelPs K F ρ n xs vs) : Drv K F ρ n ⟨xs.reverse, none⟩ (Itv K p vs.length) := by
  intro F2 ρ2 st2 H2 i s hr hn W _
  have hH : SqL K H2 p vs := .inl (.inl (W.sub _ _ (s _ _ h)))
  have hl := r.length
  refine ⟨fun x hx => ?_, fun hz => ?_⟩
  · have hx : xs.reverse[i]? = some x := hx
    have hi : i < xs.length := by
      by_cases q : i < xs.length
      · exact q
      · rw [List.getElem?_eq_none (by rw [List.length_reverse]; omega)] at hx; cases hx
    rw [List.getElem?_reverse hi] at hx
    obtain ⟨w, hw, rw'⟩ := r.get hx
    rw [hl] at hw
    refine ⟨⟨by omega, vs, w, hH, hw⟩, fun u H3 hy => ?_⟩
    obtain ⟨rfl, hy⟩ := hy
    have e := hy vs hH
    rw [hw] at e; cases e
    exact ⟨F2, Pst.refl W, rw'.mono s hr hn⟩
  · have hz : xs.reverse.length ≤ i := hz
    rw [List.length_reverse] at hz
    show vs.length ≤ i
    omega
theorem si_rev {p pos : Pos} (hg : Gl X "reversed") (hm : X.mg "reversed" = none) (hs : starEach [a] X.env = (false, eval a X.env) :: starEach [] X.env) (ha : SndE X a A) : SndI X tg (.Call (.Name "reversed" p) [a] [] pos) (iRev A) := by
  intro F ρ env st its st' σ H R W E h c
  obtain ⟨x, st1, h1, h⟩ := mb_eq h
  unfold itsRev at h
  split at h
  · cases h
    refine wI_of (RT.pi_revA hg hm pe_w hs) (ha F ρ env st _ _ σ H _ W E h1 fun F1 ρ1 w1 H1 p1 r1 => ?_)
    rw [RelP] at r1
    obtain ⟨p, vs, rfl, q, r⟩ := r1
    exact ⟨p, vs, rfl, .inl ⟨.inl (.inl (p1.wld.sub _ _ q)), c F1 ρ1 _ H1 p1 (drv_rev q r)⟩⟩
  · cases h
theorem si_seq (ha : SndE X a A) : SndI X tg a (iSeq A) := by
  intro F ρ env st its st' σ H R W E h c
  obtain ⟨x, st1, h1, h⟩ := mb_eq h
  unfold itsOf at h
  split at h
  · cases h
    refine wI_of (pi_list pe_w) (ha F ρ env st _ _ σ H _ W E h1 fun F1 ρ1 w1 H1 p1 r1 => ?_)
    rw [RelP] at r1
    obtain ⟨p, vs, rfl, q, r⟩ := r1
    exact ⟨p, rfl, ⟨vs, .inl (.inl (p1.wld.sub _ _ q))⟩, c F1 ρ1 _ H1 p1 (drv_val q r)⟩
  · cases h
    refine wI_of (pi_tup pe_w) (ha F ρ env st _ _ σ H _ W E h1 fun F1 ρ1 w1 H1 p1 r1 => ?_)
    rw [RelP] at r1
    obtain ⟨p, vs, rfl, q, r⟩ := r1
    exact ⟨p, rfl, ⟨vs, p1.wld.sub.sqT q⟩, c F1 ρ1 _ H1 p1 (drv_tup q r)⟩
  · split at h
    · rename_i l _ xs hl
      cases h
      refine wI_of (pi_list pe_w) (ha F ρ env st _ _ σ H _ W E h1 fun F1 ρ1 w1 H1 p1 r1 => ?_)
      rw [RelP] at r1
      obtain ⟨q, rfl⟩ := r1
      obtain ⟨_, vs, e, r⟩ := p1.wld.cell l _ hl
      exact ⟨_, rfl, ⟨vs, .inl (.inl e)⟩, c F1 ρ1 _ H1 p1 (drv_loc q)⟩
    · cases h
  · cases h
theorem si_rng1 {p : Pos} (hg : Gl X "range") (hm : X.mg "range" = none) (ha : SndE X a A) (hs : starEach [a] X.env = [(false, eval a X.env)]) : SndI X tg (.Call (.Name "range" p) [a] [] pos) (iRng1 A) := by
  intro F ρ env st its st' σ H R W E h c
  obtain ⟨x, st1, h1, h⟩ := mb_eq h
  refine wI_of (pi_range1 hg hm (pa_cons pe_w pa_nil hs) hs) ?_
  refine ha F ρ env st x st1 σ H _ W E h1 fun F1 ρ1 w1 H1 p1 r1 => ?_
  obtain ⟨n, st2, h2, h⟩ := mb_eq h
  obtain ⟨rfl, rfl⟩ := asI_eq h2
  split at h
  · rename_i hn
    have hn := okRng_iff.mp hn
    cases h
    cases int_ok r1
    refine ⟨n, rfl, hn.1, hn.2, c F1 ρ1 _ H1 p1 ?_⟩
    have := drv_rng (K := X.K) (F := F1) (ρ := ρ1) (n := st'.nxt) (lo := 0) (hi := n)
    rw [Int.sub_zero] at this
    exact this
  · cases h
theorem si_rng2 {p : Pos} (hg : Gl X "range") (hm : X.mg "range" = none) (ha : SndE X a A) (hb : SndE X b B) (hs : starEach [a, b] X.env = [(false, eval a X.env), (false, eval b X.env)]) (hs2 : starEach [b] X.env = [(false, eval b X.env)]) : SndI X tg (.Call (.Name "range" p) [a, b] [] pos) (iRng2 A B) := by
  intro F ρ env st its st' σ H R W E h c
  obtain ⟨x, st1, h1, h⟩ := mb_eq h
  obtain ⟨y, st2, h2, h⟩ := mb_eq h
  refine wI_of (pi_range2 hg hm (pa_cons pe_w (pa_cons pe_w pa_nil hs2) (by rw [hs, hs2])) hs hs2) ?_
  refine ha F ρ env st x st1 σ H _ W E h1 fun F1 ρ1 w1 H1 p1 r1 => ?_
  refine hb F1 ρ1 env st1 y st2 σ H1 _ p1.wld (E.step p1) h2 fun F2 ρ2 w2 H2 p2 r2 => ?_
  obtain ⟨i, st3, h3, h⟩ := mb_eq h
  obtain ⟨rfl, rfl⟩ := asI_eq h3
  obtain ⟨j, st4, h4, h⟩ := mb_eq h
  obtain ⟨rfl, rfl⟩ := asI_eq h4
  split at h
  · rename_i hn
    rw [Bool.and_eq_true] at hn
    have h5 := okRng_iff.mp hn.1
    have h6 := okRng_iff.mp hn.2
    cases h
    cases int_ok r1
    cases int_ok r2
    exact ⟨_, _, rfl, ⟨h5.1, h5.2, h6.1, h6.2⟩, c F2 ρ2 _ H2 (p1.trans p2) drv_rng⟩
  · cases h

/-! ### targets -/
theorem lbs_set {n : Nat} {v : PV} : ∀ {xs : List PV}, lbs n xs = true → v.lb n = true → ∀ j, lbs n (xs.set j v) = true
  | [], h, _, _ => h
  | x :: r, h, hv, 0 => by
    rw [lbs, Bool.and_eq_true] at h
    rw [List.set_cons_zero, lbs, hv, h.2]; rfl
  | x :: r, h, hv, j + 1 => by
    rw [lbs, Bool.and_eq_true] at h
    rw [List.set_cons_succ, lbs, h.1, lbs_set h.2 hv j]; rfl
theorem Wld.st_lb {K : PySem.W.Frag} {F : Hp} {ρ : Nat → Addr} {st : Sto} {H : Hp} (W : Wld K F ρ st H) {l : Nat} {c : Cell} (h : st.cs l = some c) : c.lb st.nxt = true := st.wc l c h
theorem sg_name {i : Nat} {x : Str} (hN : X.N.Nodup) (hi : X.N[i]? = some x) (hx : Loc X.env.scope x) (hf : X.fn x = true ∨ X.env.scope.names.lookup x = some .local) : SndG X (.Name x pos) (gName i) [i] := by
  intro F ρ env st v w e' st' σ H Q W E r h c
  cases h
  exact wG_of (pg_name hN hi hx hf) (c F ρ _ H (Pst.refl W) (E.set r i) .set)
theorem sgs_nil : SndGs X [] (gList []) [] := by
  intro F ρ env st vs ws e' st' σ H Q W E r h c
  cases vs with
  | nil =>
    cases h
    cases r.inv0
    exact wGs_of pgs_nil ⟨rfl, c F ρ _ H (Pst.refl W) E .refl⟩
  | cons _ _ => cases h
theorem sgs_cons {es : List Expr} {G : DG} {Gs : List DG} {js ks : List Nat} (h1 : SndG X e G js) (h2 : SndGs X es (gList Gs) ks) (hs : (assignEach (e :: es) X.env).map (·.2) = assign e X.env :: (assignEach es X.env).map (·.2)) : SndGs X (e :: es) (gList (G :: Gs)) (js ++ ks) := by
  intro F ρ env st vs ws e' st' σ H Q W E r h c
  cases vs with
  | nil => cases h
  | cons v vs =>
    obtain ⟨e1, s1, h3, h⟩ := mb_eq h
    obtain ⟨w, ws, rfl, r1, r2⟩ := r.inv
    refine wGs_of (pgs_cons pg_w pgs_w hs) ⟨w, ws, rfl, h1 F ρ env st v w e1 s1 σ H _ W E r1 h3 fun F1 ρ1 σ1 H1 p1 E1 b1 => ?_⟩
    exact h2 F1 ρ1 e1 s1 vs ws e' st' σ1 H1 Q p1.wld E1 (r2.step p1) h fun F2 ρ2 σ2 H2 p2 E2 b2 => c F2 ρ2 σ2 H2 (p1.trans p2) E2 (b1.trans b2)
theorem gList_len : ∀ {Gs : List DG} {vs : List PV} {env : Env} {st : Sto} {r : Env × Sto}, gList Gs vs env st = some r → Gs.length = vs.length
  | [], [], _, _, _, _ => rfl
  | [], _ :: _, _, _, _, h => by cases h
  | _ :: _, [], _, _, _, h => by cases h
  | G :: Gs, v :: vs, env, st, r, h => by
    obtain ⟨e1, s1, _, h⟩ := mb_eq (b := r.1) (st := r.2) h
    rw [List.length_cons, List.length_cons, gList_len h]
theorem sg_tup {es : List Expr} {Gs : List DG} {k n : Nat} {js : List Nat} (hc : X.calm = true) (h : SndGs X es (gList Gs) js) (hn : (assignEach es X.env).length = n) (hst : (assignEach es X.env).findIdx? (·.1) = none) (hl : Gs.length = n) : SndG X (.Tuple es k pos) (gTup Gs) js := by
  intro F ρ env st v w e' st' σ H Q W E r h0 c
  unfold gTup at h0
  split at h0
  · rename_i xs
    obtain ⟨p, vs, rfl, q, r2⟩ := tup_ok W r
    refine wG_of (pg_tup hc pgs_w hn hst) ⟨p, vs, rfl, q, ?_, ?_⟩
    · rw [← r2.length, ← gList_len h0]; exact hl
    · exact h F ρ env st xs vs e' st' σ H Q W E r2 h0 c
  · cases h0
theorem sg_sub {o i : Expr} {O I : DE} (hu : X.A.units + 65 < cLine) (hasg : ∀ v, assign (.Subscript o i pos) X.env v = (do let ov ← holding [v] (eval o X.env); let iv ← holding [v, ov] (eval i X.env); standAt pos; holding [v, ov, iv] (setItem ov iv v); release [v, ov, iv] [])) (ho : SndE X o O) (hi : SndE X i I) : SndG X (.Subscript o i pos) (gSub O I) [] := by
  intro F ρ env st v w e' st' σ H Q W E r h c
  obtain ⟨x, st1, h1, h⟩ := mb_eq h
  obtain ⟨y, st2, h2, h⟩ := mb_eq h
  refine wG_of (pg_sub pe_w pe_w set_w hasg) ?_
  refine ho F ρ env st x st1 σ H _ W E h1 fun F1 ρ1 w1 H1 p1 r1 => ?_
  refine hi F1 ρ1 env st1 y st2 σ H1 _ p1.wld (E.step p1) h2 fun F2 ρ2 w2 H2 p2 r2 => ?_
  cases hs : setL x y v st2 with
  | none => rw [hs] at h; cases h
  | some s3 =>
    rw [hs] at h; cases h
    cases x with
    | loc l =>
      have hs : (match (generalizing := false) st2.cs l with
        | some (.lst xs) => match (generalizing := false) y with
          | .int i => match (generalizing := false) ixN xs.length i with
            | some j => if v.lb st2.nxt then some (st2.set l (.lst (xs.set j v))) else none
            | none => none
          | _ => none
        | some (.dct ks vs) => if goodK ks y && v.lb st2.nxt && decide (ks.length < sizeLine) then some (st2.set l (.dct (dput ks vs y v).1 (dput ks vs y v).2)) else none
        | none => none) = some st' := hs
      have r1 := r1.step p2
      rw [RelP] at r1
      obtain ⟨_, rfl⟩ := r1
      split at hs
      · rename_i xs hl
        split at hs
        · rename_i j hj
          split at hs
          · rename_i j' hj'
            split at hs
            · rename_i hb
              cases hs
              cases int_ok r2
              obtain ⟨_, vs, e, rc⟩ := p2.wld.cell l _ hl
              refine wSet_of set_list ⟨_, vs, _, j', rfl, rfl, e, by rw [← rc.length]; exact hj', ?_⟩
              have hw : lbs st2.nxt xs = true := p2.wld.st_lb hl
              have p3 := p2.wld.set hl (c := .lst (xs.set j' v)) (o := .lst (vs.set j' w)) (lbs_set hw hb j') ⟨_, rfl, rc.set (r.step (p1.trans p2)) j'⟩
              exact c _ _ _ _ ((p1.trans p2).trans p3) (((E.step p1).step p2).step p3) .refl
            · cases hs
          · cases hs
        · cases hs
      · rename_i ks vs hl
        split at hs
        · rename_i hb
          cases hs
          simp only [Bool.and_eq_true, decide_eq_true_eq] at hb
          refine setD_ok hu p2.wld hl r2 (r.step (p1.trans p2)) hb.1.1 hb.1.2 hb.2 fun F3 ρ3 H3 p3 => ?_
          exact c _ _ _ _ ((p1.trans p2).trans p3) (((E.step p1).step p2).step p3) .refl
        · cases hs
      · cases hs
    | _ => cases hs

/-! ### comprehensions -/
theorem Ct.ofPst {K : PySem.W.Frag} {F F1 : Hp} {ρ ρ1 : Nat → Addr} {st st1 st' : Sto} {H H1 : Hp} {v : PV} {Q : VK} (a : Pst K F ρ st H F1 ρ1 st1 H1) (c : Ct K F ρ st H v st' Q) : Ct K F1 ρ1 st1 H1 v st' Q := fun F' ρ' w H' p r => c F' ρ' w H' (a.trans p) r
/-- the list that a comprehension fills, beside the world -/
structure Bes (K : PySem.W.Frag) (F1 : Hp) (ρ1 : Nat → Addr) (st1 : Sto) (H1 : Hp) (D : Addr) (F : Hp) (ρ : Nat → Addr) (st : Sto) (H : Hp) (ys : List PV) (acc : List V) : Prop where
  p : Pst K F1 ρ1 st1 H1 F ρ st H
  h1 : H1 D = none
  at' : H D = some (.lst acc)
  nF : F D = none
  nL : ∀ l c, st.cs l = some c → ρ l ≠ D
  rel : RelPs K F ρ st.nxt ys acc
theorem Bes.step {K : PySem.W.Frag} {F1 : Hp} {ρ1 : Nat → Addr} {st1 : Sto} {H1 : Hp} {D : Addr} {F : Hp} {ρ : Nat → Addr} {st : Sto} {H : Hp} {ys : List PV} {acc : List V} {F' : Hp} {ρ' : Nat → Addr} {st' : Sto} {H' : Hp}
    (b : Bes K F1 ρ1 st1 H1 D F ρ st H ys acc) (q : Pst K F ρ st H F' ρ' st' H') : Bes K F1 ρ1 st1 H1 D F' ρ' st' H' ys acc := by
  refine ⟨b.p.trans q, b.h1, q.ext D _ b.at' b.nL, ?_, fun l c z e => ?_, b.rel.step q⟩
  · cases e : F' D with
    | none => rfl
    | some o =>
      rcases q.fz D o e with h | h | ⟨l, c, h1, h2⟩
      · rw [b.nF] at h; cases h
      · rw [b.at'] at h; cases h
      · exact absurd h2 (b.nL l c h1)
  · by_cases h : l < st.nxt
    · obtain ⟨c0, h0⟩ := q.live l c h z
      exact b.nL l c0 h0 (by rw [← q.rho l h]; exact e)
    · have := q.fresh l c (Nat.not_lt.mp h) z
      rw [e, b.at'] at this; cases this
theorem Bes.push {K : PySem.W.Frag} {F1 : Hp} {ρ1 : Nat → Addr} {st1 : Sto} {H1 : Hp} {D : Addr} {F : Hp} {ρ : Nat → Addr} {st : Sto} {H : Hp} {ys : List PV} {acc : List V} {y : PV} {w : V}
    (b : Bes K F1 ρ1 st1 H1 D F ρ st H ys acc) (r : RelP K F ρ st.nxt y w) : Bes K F1 ρ1 st1 H1 D F ρ st (upd H D (.lst (acc ++ [w]))) (ys ++ [y]) (acc ++ [w]) :=
  ⟨b.p.side b.h1 b.nF b.nL, b.h1, upd_same, b.nF, b.nL, b.rel.append (.cons r .nil)⟩
theorem Bes.wld {K : PySem.W.Frag} {F1 : Hp} {ρ1 : Nat → Addr} {st1 : Sto} {H1 : Hp} {D : Addr} {F : Hp} {ρ : Nat → Addr} {st : Sto} {H : Hp} {ys : List PV} {acc : List V} (b : Bes K F1 ρ1 st1 H1 D F ρ st H ys acc) : Wld K F ρ st H := b.p.wld
theorem Bes.start {K : PySem.W.Frag} {F1 : Hp} {ρ1 : Nat → Addr} {st1 : Sto} {H1 : Hp} {D : Addr} (W : Wld K F1 ρ1 st1 H1) (h : H1 D = none) : Bes K F1 ρ1 st1 H1 D F1 ρ1 st1 (upd H1 D (.lst [])) [] [] := by
  have nF : F1 D = none := by
    cases e : F1 D with
    | none => rfl
    | some u => have := W.sub D u e; rw [h] at this; cases this
  have nL : ∀ l c, st1.cs l = some c → ρ1 l ≠ D := fun l c z => W.ne z h
  exact ⟨(Pst.refl W).side h nF nL, h, upd_same, nF, nL, .nil⟩
theorem Bes.fin {K : PySem.W.Frag} {F1 : Hp} {ρ1 : Nat → Addr} {st1 : Sto} {H1 : Hp} {D : Addr} {F : Hp} {ρ : Nat → Addr} {st st' : Sto} {H : Hp} {ys : List PV} {acc : List V} {m : Bool} {v : PV} {Q : VK}
    (b : Bes K F1 ρ1 st1 H1 D F ρ st H ys acc) (h : mkL m ys st = some (v, st')) (c : Ct K F1 ρ1 st1 H1 v st' Q) : Q (.ref D) H := by
  unfold mkL at h
  split at h
  · split at h
    · split at h
      · rename_i hl
        cases h
        refine c _ _ _ _ (b.p.keepL b.h1 b.nF b.nL b.at' (c := .lst ys) hl ⟨acc, rfl, b.rel⟩) ?_
        rw [RelP]
        exact ⟨by rw [Sto.alloc_nxt]; omega, by rw [if_pos rfl]⟩
      · cases h
    · cases h
      have p := b.p.keepV b.h1 b.nF b.nL b.at'
      refine c _ _ _ _ p ?_
      rw [RelP]
      refine ⟨D, acc, rfl, upd_same, b.rel.mono (fun x u z => ?_) (fun _ _ => rfl) (Nat.le_refl _)⟩
      rw [upd_ne (ne_of_none z b.nF)]; exact z
  · cases h
theorem mkL_len {m : Bool} {ys : List PV} {st : Sto} {r : PV × Sto} (h : mkL m ys st = some r) : ys.length ≤ sizeLine := by
  unfold mkL at h
  split at h
  · assumption
  · cases h
def SndTs (X : Cx) (ifs : List Expr) (D : DT) : Prop := ∃ t, PTs X ifs t ∧ ∀ F ρ env st b st' σ H Q, Wld X.K F ρ st H → ERel X.K F ρ st.nxt env σ → D env st = some (b, st') →
  (∀ F' ρ' H', Pst X.K F ρ st H F' ρ' st' H' → Q b H') → t σ H Q
abbrev Blk (X : Cx) (scope : Scope) (P : Cx → Prop) : Prop := ∀ (s : Shared) (H : Hp) (C : Addr) (cl : List (Str × Addr)) (fp : List Addr), P (X.blk s H scope (compEnvC scope cl C X.env) fp)
/-- the readings of a block's parts, whatever the block -/
def bE (X : Cx) (scope : Scope) (e : Expr) : TE := fun σ H Q => Blk X scope fun Y => wE Y e σ H Q
def bT (X : Cx) (scope : Scope) (e : Expr) : TT := fun σ H Q => Blk X scope fun Y => wT Y e σ H Q
def bG (X : Cx) (scope : Scope) (e : Expr) : TG := fun v σ H Q => Blk X scope fun Y => wG Y e v σ H Q
theorem pe_b {scope : Scope} {e : Expr} : Blk X scope fun Y => PE Y e (bE X scope e) := fun s H C cl fp => ⟨fun pins s' σ H' Q I h => h s H C cl fp pins s' I⟩
theorem pt_b {scope : Scope} {e : Expr} : Blk X scope fun Y => PT Y e (bT X scope e) := fun s H C cl fp => ⟨fun pins s' σ H' Q I h => h s H C cl fp pins s' I⟩
theorem pg_b {scope : Scope} {e : Expr} : Blk X scope fun Y => PG Y e (bG X scope e) := fun s H C cl fp => ⟨fun pins s' σ H' v u Q I r h => h s H C cl fp pins s' u I r⟩
/-- the tests of a comprehension: none or one -/
inductive Ifs (X : Cx) (scope : Scope) : List Expr → DT → Prop
  | nil : Ifs X scope [] tYes
  | one {c : Expr} {D : DT} : (Blk X scope fun Y => SndT Y c D) → Ifs X scope [c] D
def ifsT (X : Cx) (scope : Scope) : List Expr → TT
  | [c] => bT X scope c
  | _ => L2.tYes
theorem Ifs.pts {scope : Scope} {ifs : List Expr} {D : DT} (h : Ifs X scope ifs D) : Blk X scope fun Y => PTs Y ifs (ifsT X scope ifs) := fun s H C cl fp => by
  cases h with
  | nil => exact pts_nil
  | one h => exact pts_one (pt_b s H C cl fp)
theorem Ifs.run {scope : Scope} {ifs : List Expr} {D : DT} (h : Ifs X scope ifs D) {F ρ env st b st' σ H Q} (W : Wld X.K F ρ st H) (E : ERel X.K F ρ st.nxt env σ) (h0 : D env st = some (b, st'))
    (c : ∀ F' ρ' H', Pst X.K F ρ st H F' ρ' st' H' → Q b H') : ifsT X scope ifs σ H Q := by
  cases h with
  | nil => cases h0; exact c F ρ H (Pst.refl W)
  | one h => exact fun s H' C cl fp => h s H' C cl fp F ρ env st b st' σ H Q W E h0 c
theorem lc_run {elt it : Expr} {ifs : List Expr} {scope : Scope} {vs : List Nat} {I : DI} {G : DG} {T : DT} {A : DE} {m : Bool} (hI : SndI X tg it I) {js : List Nat} (hG : Blk X scope fun Y => SndG Y tg G js) (hjs : ∀ j ∈ js, j ∈ vs) (hT : Ifs X scope ifs T) (hA : Blk X scope fun Y => SndE Y elt A)
    {F : Hp} {ρ : Nat → Addr} {env : Env} {st : Sto} {v : PV} {st' : Sto} {σ : L2.St} {H : Hp} {Q : VK} (W : Wld X.K F ρ st H) (E : ERel X.K F ρ st.nxt env σ) (h : dLc m vs I G T A env st = some (v, st')) (c : Ct X.K F ρ st H v st' Q) :
    tLc (wI X tg it) (bG X scope tg) (ifsT X scope ifs) (bE X scope elt) vs σ H Q := by
  obtain ⟨its, st1, h1, h⟩ := mb_eq h
  obtain ⟨ys, st2, h2, h⟩ := mb_eq h
  refine hI F ρ env st its st1 σ H _ W E h1 fun F1 ρ1 J H1 p1 drv => ?_
  intro D hD
  have c1 := Ct.ofPst p1 c
  have E1 := (E.step p1).wipe vs
  have hz := mkL_len h
  have hww := wipe_wipe σ vs
  refine ⟨fun i mm H' => ∃ F2 ρ2 s2 done acc rest, Bes X.K F1 ρ1 st1 H1 D F2 ρ2 s2 H' done acc ∧ i + mm = its.items.length ∧ done.length ≤ i ∧ lcGo its G T A (wipeE env vs) (its.items.drop i) s2 = some (rest, st2) ∧ ys = done ++ rest, ⟨its.items.length, F1, ρ1, st1, [], [], ys, .start p1.wld hD, by omega, Nat.le_refl _, h2, rfl⟩, fun i mm H' hW => ?_⟩
  obtain ⟨F2, ρ2, s2, done, acc, rest, b, em, hdl, hg, rfl⟩ := hW
  have dr := fun hok => drv F2 ρ2 s2 H' i b.p.ex b.p.rho b.p.nxt b.wld hok
  by_cases hi : i < its.items.length
  · rw [List.drop_eq_getElem_cons hi, lcGo] at hg
    split at hg
    · rename_i hok
      obtain ⟨dgo, dyld⟩ := (dr hok).1 its.items[i] (List.getElem?_eq_getElem hi)
      obtain ⟨e1, s3, hg1, hg⟩ := mb_eq hg
      obtain ⟨k, s4, hg2, hg⟩ := mb_eq hg
      refine .inr ⟨dgo, fun H'' => ∃ F2 ρ2 s2 done' acc rest', Bes X.K F1 ρ1 st1 H1 D F2 ρ2 s2 H'' done' acc ∧ done'.length ≤ i + 1 ∧ lcGo its G T A (wipeE env vs) (its.items.drop (i + 1)) s2 = some (rest', st2) ∧ done ++ rest = done' ++ rest',
        fun H'' hN => ?_, fun w H3 hy => ?_⟩
      · obtain ⟨F5, ρ5, s5, d5, a5, r5, b5, l5, g5, y5⟩ := hN
        exact ⟨mm - 1, by omega, F5, ρ5, s5, d5, a5, r5, b5, by omega, l5, g5, y5⟩
      · obtain ⟨F3, p3, r3⟩ := dyld w H3 hy
        have b3 := b.step p3
        have E3 : ERel X.K F3 ρ2 s2.nxt (wipeE env vs) (L2.wipe σ vs) := E1.step b3.p
        intro s0 H0 C0 cl0 fp0
        refine hG s0 H0 C0 cl0 fp0 F3 ρ2 (wipeE env vs) s2 _ w e1 s3 (L2.wipe σ vs) H3 _ b3.wld E3 r3 hg1 fun F4 ρ4 σ4 H4 p4 E4 sb => ⟨(sb.wipe hjs).trans hww, ?_⟩
        · have b4 := b3.step p4
          refine hT.run b4.wld E4 hg2 fun F5 ρ5 H5 p5 => ?_
          have b5 := b4.step p5
          have E5 := E4.step p5
          cases k with
          | false =>
            exact ⟨F5, ρ5, s4, done, acc, rest, b5, by omega, hg, rfl⟩
          | true =>
            obtain ⟨y, s6, hg3, hg⟩ := mb_eq hg
            obtain ⟨zs, s7, hg4, hg⟩ := mb_eq hg
            cases hg
            show bE X scope elt σ4 H5 _
            intro s0 H0 C0 cl0 fp0
            refine hA s0 H0 C0 cl0 fp0 F5 ρ5 e1 s4 y s6 σ4 H5 _ b5.wld E5 hg3 fun F6 ρ6 w6 H6 p6 r6 => ?_
            have b6 := b5.step p6
            refine ⟨acc, b6.at', ?_, F6, ρ6, s6, done ++ [y], acc ++ [w6], zs, b6.push r6, by rw [List.length_append, List.length_singleton]; omega, hg4, by rw [List.append_assoc]; rfl⟩
            have hb := b6.rel.length
            rw [List.length_append, List.length_cons] at hz
            omega
    · cases hg
  · rw [List.drop_eq_nil_of_le (Nat.not_lt.mp hi), lcGo] at hg
    split at hg
    · rename_i hok
      cases hg
      rw [List.append_nil] at h
      exact .inl ⟨(dr hok).2 (Nat.not_lt.mp hi), b.fin h c1⟩
    · cases hg
end
end DL

/-! DL5: statements, defs. -/
namespace DL
open PySem PySem.Spec PyProof.Rows L2

section
variable {X : Cx}
theorem snd_lc {elt it tg : Expr} {ifs : List Expr} {scope : Scope} {pos : Pos} {own : List (Str × Nat)} {I : DI} {G : DG} {T : DT} {A : DE} {m : Bool} {js : List Nat} (hc : X.calm = true) (hN : X.N.Nodup) (ok : BlkOk X.N X.env.scope scope own) (hs : ∀ x, foldedSetIterable it X.env x = pure x)
    (hI : SndI X tg it I) (hG : Blk X scope fun Y => SndG Y tg G js) (hjs : ∀ j ∈ js, j ∈ own.map (·.2)) (hT : Ifs X scope ifs T) (hA : Blk X scope fun Y => SndE Y elt A) :
    SndE X (.ListComp elt [⟨tg, it, ifs, 0⟩] scope pos) (dLc m (own.map (·.2)) I G T A) := by
  intro F ρ env st v st' σ H Q W E h c
  exact wE_of (pe_lc hc hN pi_w ok pg_b hT.pts pe_b hs) (lc_run hI hG hjs hT hA W E h c)

/-! ### statements -/
def EndsOk (K : PySem.W.Frag) (F : Hp) (ρ : Nat → Addr) (st : Sto) (H : Hp) (fl : Fl) (st' : Sto) (E : Ends) : Prop := match fl with
  | .nx e => ∀ F' ρ' σ' H', Pst K F ρ st H F' ρ' st' H' → ERel K F' ρ' st'.nxt e σ' → E.nx σ' H'
  | .bk e => ∀ F' ρ' σ' H', Pst K F ρ st H F' ρ' st' H' → ERel K F' ρ' st'.nxt e σ' → E.bk σ' H'
  | .ct e => ∀ F' ρ' σ' H', Pst K F ρ st H F' ρ' st' H' → ERel K F' ρ' st'.nxt e σ' → E.ct σ' H'
  | .rt v => Ct K F ρ st H v st' E.rt
theorem EndsOk.of {K : PySem.W.Frag} {F F1 : Hp} {ρ ρ1 : Nat → Addr} {st st1 st' : Sto} {H H1 : Hp} {fl : Fl} {E : Ends} (p : Pst K F ρ st H F1 ρ1 st1 H1) (k : EndsOk K F ρ st H fl st' E) : EndsOk K F1 ρ1 st1 H1 fl st' E := by
  cases fl with
  | nx e => exact fun F' ρ' σ' H' q r => k F' ρ' σ' H' (p.trans q) r
  | bk e => exact fun F' ρ' σ' H' q r => k F' ρ' σ' H' (p.trans q) r
  | ct e => exact fun F' ρ' σ' H' q r => k F' ρ' σ' H' (p.trans q) r
  | rt v => exact fun F' ρ' σ' H' q r => k F' ρ' σ' H' (p.trans q) r
def SndS (X : Cx) (s : Stmt) (D : DS) : Prop := ∀ F ρ env st fl st' σ H (E : Ends), Wld X.K F ρ st H → ERel X.K F ρ st.nxt env σ → D env st = some (fl, st') → EndsOk X.K F ρ st H fl st' E → wS X s E σ H
def SndSs (X : Cx) (s : List Stmt) (D : DS) : Prop := ∀ F ρ env st fl st' σ H (E : Ends), Wld X.K F ρ st H → ERel X.K F ρ st.nxt env σ → D env st = some (fl, st') → EndsOk X.K F ρ st H fl st' E → wSs X s E σ H
variable {pos : Pos} {a b c e tg : Expr} {A B C : DE} {s : Stmt} {ss us : List Stmt} {D D' : DS}
theorem sss_nil : SndSs X [] sPass := fun F ρ env st fl st' σ H E W R h k => by
  cases h
  exact wSs_of pss_nil (k F ρ σ H (Pst.refl W) R)
theorem sss_cons (h1 : SndS X s D) (h2 : SndSs X ss D') : SndSs X (s :: ss) (sSeq D D') := fun F ρ env st fl st' σ H E W R h k => by
  obtain ⟨f, st1, h3, h⟩ := mb_eq h
  refine wSs_of (pss_cons ps_w pss_w) ?_
  refine h1 F ρ env st f st1 σ H { E with nx := fun σ' H' => wSs X ss E σ' H' } W R h3 ?_
  cases f with
  | nx e => exact fun F1 ρ1 σ1 H1 p1 R1 => h2 F1 ρ1 e st1 fl st' σ1 H1 E p1.wld R1 h (EndsOk.of p1 k)
  | bk e => cases h; exact k
  | ct e => cases h; exact k
  | rt v => cases h; exact k
theorem sss_one (h1 : SndS X s D) : SndSs X [s] D := fun F ρ env st fl st' σ H E W R h k => wSs_of (pss_one ps_w) (h1 F ρ env st fl st' σ H E W R h k)
theorem ss_pass : SndS X (.Pass pos) sPass := fun F ρ env st fl st' σ H E W R h k => by
  cases h
  exact wS_of ps_pass (k F ρ σ H (Pst.refl W) R)
theorem ss_doc {x : Str} {j : Nat} {pos' : Pos} : SndS X (.Expr (.Constant (.str x) j pos) pos') sPass := fun F ρ env st fl st' σ H E W R h k => by
  cases h
  exact wS_of ps_doc (k F ρ σ H (Pst.refl W) R)
theorem ss_break : SndS X (.Break pos) sBreak := fun F ρ env st fl st' σ H E W R h k => by
  cases h
  exact wS_of ps_break (k F ρ σ H (Pst.refl W) R)
theorem ss_cont : SndS X (.Continue pos) sCont := fun F ρ env st fl st' σ H E W R h k => by
  cases h
  exact wS_of ps_continue (k F ρ σ H (Pst.refl W) R)
theorem ss_expr (ha : SndE X a A) (hs : swapsWith a none pos.line X.env = pure false) : SndS X (.Expr a pos) (sExpr A) := fun F ρ env st fl st' σ H E W R h k => by
  obtain ⟨x, st1, h1, h⟩ := mb_eq h
  cases h
  refine wS_of (ps_expr pe_w hs) ?_
  exact ha F ρ env st x st' σ H _ W R h1 fun F1 ρ1 w1 H1 p1 r1 => k F1 ρ1 σ H1 p1 (R.step p1)
theorem ss_ret (ha : SndE X a A) : SndS X (.Return (some a) pos) (sRet A) := fun F ρ env st fl st' σ H E W R h k => by
  obtain ⟨x, st1, h1, h⟩ := mb_eq h
  cases h
  refine wS_of (ps_ret pe_w) ?_
  exact ha F ρ env st x st' σ H _ W R h1 k
theorem ss_retN : SndS X (.Return none pos) sRetN := fun F ρ env st fl st' σ H E W R h k => by
  cases h
  exact wS_of ps_retN (k F ρ .non H (Pst.refl W) rel_non)
theorem ss_asg {G : DG} {js : List Nat} (hae : (assignEach [tg] X.env).map (·.2) = [assign tg X.env]) (hs : swapsWithSole [tg] a pos.line X.env = pure false) (hw : swappedStores [tg] a X.env = pure none) (ha : SndE X a A) (hg : SndG X tg G js) : SndS X (.Assign [tg] a pos) (sAsg A G) := fun F ρ env st fl st' σ H E W R h k => by
  obtain ⟨x, st1, h1, h⟩ := mb_eq h
  obtain ⟨e1, st2, h2, h⟩ := mb_eq h
  cases h
  refine wS_of (ps_asg pe_w pg_w hs hw (h1 := hae)) ?_
  refine ha F ρ env st x st1 σ H _ W R h1 fun F1 ρ1 w1 H1 p1 r1 => ?_
  exact hg F1 ρ1 env st1 x w1 e1 st' σ H1 E.nx p1.wld (R.step p1) r1 h2 fun F2 ρ2 σ2 H2 p2 R2 _ => k F2 ρ2 σ2 H2 (p1.trans p2) R2
theorem ss_setLc {i : Nat} {y : Str} {py : Pos} {elt it : Expr} {ifs : List Expr} {scope : Scope} {spos : Pos} {own : List (Str × Nat)} {I : DI} {G : DG} {T : DT} {A : DE} {m : Bool} {js : List Nat} (hc : X.calm = true) (hN : X.N.Nodup) (hy : X.N[i]? = some y) (hyl : X.env.scope.names.lookup y = some .local)
    (hsw : swapsWith (.ListComp elt [⟨tg, it, ifs, 0⟩] scope pos) (some (.Name y py)) spos.line X.env = pure true) (ok : BlkOk X.N X.env.scope scope own) (hs : ∀ x, foldedSetIterable it X.env x = pure x)
    (hI : SndI X tg it I) (hG : Blk X scope fun Y => SndG Y tg G js) (hjs : ∀ j ∈ js, j ∈ own.map (·.2)) (hT : Ifs X scope ifs T) (hA : Blk X scope fun Y => SndE Y elt A) :
    SndS X (.Assign [.Name y py] (.ListComp elt [⟨tg, it, ifs, 0⟩] scope pos) spos) (sAsg (dLc m (own.map (·.2)) I G T A) (gName i)) := fun F ρ env st fl st' σ H E W R h k => by
  obtain ⟨x, st1, h1, h⟩ := mb_eq h
  cases h
  refine wS_of (ps_setLc hc hN hy hyl hsw pi_w ok pg_b hT.pts pe_b hs) ?_
  refine lc_run hI hG hjs hT hA W R h1 fun F1 ρ1 w1 H1 p1 r1 => ?_
  exact k F1 ρ1 _ H1 p1 ((R.step p1).set r1 i)
theorem ss_aug {i : Nat} {x : Str} {op : Operator} {f : PV → PV → M PV} {pos' : Pos} (hN : X.N.Nodup) (hi : X.N[i]? = some x) (hx : Loc X.env.scope x) (hf : X.fn x = true ∨ X.env.scope.names.lookup x = some .local) (ho : SndO X (inplaceOp op) f) (ha : SndE X a A) : SndS X (.AugAssign (.Name x pos') op a pos) (sAug f i A) := fun F ρ env st fl st' σ H E W R h k => by
  unfold sAug at h
  split at h
  · rename_i x hx'
    obtain ⟨y, st1, h1, h⟩ := mb_eq h
    obtain ⟨z, st2, h2, h⟩ := mb_eq h
    cases h
    obtain ⟨w, hw, r⟩ := R.2 i _ hx'
    have hop : PIp X op (wR X (inplaceOp op)) := fun pins s σ H x y v u Q I r1 r2 q => q pins s σ v u I r1 r2
    refine wS_of (ps_aug hN hi hx pe_w hop hf) ⟨w, hw, ?_⟩
    refine ha F ρ env st y st1 σ H _ W R h1 fun F1 ρ1 w1 H1 p1 r1 => ?_
    exact ho F1 ρ1 st1 x y w w1 z st' H1 _ p1.wld (r.step p1) r1 h2 fun F2 ρ2 w2 H2 p2 r2 => k F2 ρ2 _ H2 (p1.trans p2) (((R.step p1).step p2).set r2 i)
  · cases h
theorem ss_if {t : Expr} {T : DT} (ht : SndT X t T) (h1 : SndSs X ss D) (h2 : SndSs X us D') : SndS X (.If t ss us pos) (sIf T D D') := fun F ρ env st fl st' σ H E W R h k => by
  obtain ⟨x, st1, h3, h⟩ := mb_eq h
  refine wS_of (ps_if pt_w pss_w pss_w) (ht F ρ env st x st1 σ H _ W R h3 fun F1 ρ1 H1 p1 => ?_)
  cases x with
  | true => exact h1 F1 ρ1 env st1 fl st' σ H1 E p1.wld (R.step p1) h (EndsOk.of p1 k)
  | false => exact h2 F1 ρ1 env st1 fl st' σ H1 E p1.wld (R.step p1) h (EndsOk.of p1 k)
theorem ss_for {it : Expr} {I : DI} {G : DG} {js : List Nat} (hx : X.xe = fun _ _ => False) (hc : X.calm = true) (hI : SndI X tg it I) (hG : SndG X tg G js) (hD : SndSs X ss D) (hs : ∀ x, foldedSetIterable it X.env x = pure x) : SndS X (.For tg it ss [] pos) (sFor I G D) := fun F ρ env st fl st' σ H E W R h k => by
  obtain ⟨its, st1, h1, h⟩ := mb_eq h
  refine wS_of (ps_for (by rw [hx]; exact PassesOwn.never) hc pi_w pg_w pss_w hs) ?_
  refine hI F ρ env st its st1 σ H _ W R h1 fun F1 ρ1 J H1 p1 drv => ?_
  refine ⟨fun i mm σ' H' => ∃ F2 ρ2 e2 s2, Pst X.K F1 ρ1 st1 H1 F2 ρ2 s2 H' ∧ ERel X.K F2 ρ2 s2.nxt e2 σ' ∧ i + mm = its.items.length ∧ forGo its G D (its.items.drop i) e2 s2 = some (fl, st'), ⟨its.items.length, F1, ρ1, env, st1, Pst.refl p1.wld, R.step p1, by omega, h⟩, fun i mm σ' H' hW => ?_⟩
  obtain ⟨F2, ρ2, e2, s2, p2, R2, em, hg⟩ := hW
  have dr := fun hok => drv F2 ρ2 s2 H' i p2.ex p2.rho p2.nxt p2.wld hok
  by_cases hi : i < its.items.length
  · rw [List.drop_eq_getElem_cons hi, forGo] at hg
    split at hg
    · rename_i hok
      obtain ⟨dgo, dyld⟩ := (dr hok).1 its.items[i] (List.getElem?_eq_getElem hi)
      obtain ⟨e3, s3, hg1, hg⟩ := mb_eq hg
      obtain ⟨f, s4, hg2, hg⟩ := mb_eq hg
      refine .inr ⟨dgo, fun σ'' H'' => ∃ F2 ρ2 e2 s2, Pst X.K F1 ρ1 st1 H1 F2 ρ2 s2 H'' ∧ ERel X.K F2 ρ2 s2.nxt e2 σ'' ∧ forGo its G D (its.items.drop (i + 1)) e2 s2 = some (fl, st'), fun σ'' H'' hN => ?_, fun w H3 hy => ?_⟩
      · obtain ⟨F5, ρ5, e5, s5, p5, R5, g5⟩ := hN
        exact ⟨mm - 1, by omega, F5, ρ5, e5, s5, p5, R5, by omega, g5⟩
      · obtain ⟨F3, p3, r3⟩ := dyld w H3 hy
        refine hG F3 ρ2 e2 s2 _ w e3 s3 σ' H3 _ p3.wld (R2.step p3) r3 hg1 fun F4 ρ4 σ4 H4 p4 R4 _ => ?_
        have p5 := (p2.trans p3).trans p4
        refine hD F4 ρ4 e3 s3 f s4 σ4 H4 _ p4.wld R4 hg2 ?_
        cases f with
        | nx e => exact fun F6 ρ6 σ6 H6 p6 R6 => ⟨F6, ρ6, e, s4, p5.trans p6, R6, hg⟩
        | ct e => exact fun F6 ρ6 σ6 H6 p6 R6 => ⟨F6, ρ6, e, s4, p5.trans p6, R6, hg⟩
        | bk e => cases hg; exact fun F6 ρ6 σ6 H6 p6 R6 => k F6 ρ6 σ6 H6 ((p1.trans p5).trans p6) R6
        | rt v => cases hg; exact fun F6 ρ6 σ6 H6 p6 R6 => k F6 ρ6 σ6 H6 ((p1.trans p5).trans p6) R6
    · cases hg
  · rw [List.drop_eq_nil_of_le (Nat.not_lt.mp hi), forGo] at hg
    split at hg
    · rename_i hok
      cases hg
      exact .inl ⟨(dr hok).2 (Nat.not_lt.mp hi), k F2 ρ2 σ' H' (p1.trans p2) R2⟩
    · cases hg
theorem ss_while {t : Expr} {T : DT} (hx : X.xe = fun _ _ => False) (ht : SndT X t T) (hD : SndSs X ss D) : SndS X (.While t ss [] pos) (sWhile T D) := fun F ρ env st fl st' σ H E W R h k => by
  refine wS_of (ps_while (by rw [hx]; exact PassesOwn.never) pt_w pss_w) ?_
  have h : whGo T D 100000 env st = some (fl, st') := h
  refine ⟨fun mm σ' H' => ∃ F2 ρ2 e2 s2, Pst X.K F ρ st H F2 ρ2 s2 H' ∧ ERel X.K F2 ρ2 s2.nxt e2 σ' ∧ whGo T D mm e2 s2 = some (fl, st'), ⟨100000, F, ρ, env, st, Pst.refl W, R, h⟩, fun mm σ' H' hW => ?_⟩
  obtain ⟨F2, ρ2, e2, s2, p2, R2, hg⟩ := hW
  cases mm with
  | zero => cases hg
  | succ mm =>
    rw [whGo] at hg
    obtain ⟨x, s3, hg1, hg⟩ := mb_eq hg
    refine ht F2 ρ2 e2 s2 x s3 σ' H' _ p2.wld R2 hg1 fun F3 ρ3 H3 p3 => ?_
    have p4 := p2.trans p3
    cases x with
    | false => cases hg; exact k F3 ρ3 σ' H3 p4 (R2.step p3)
    | true =>
      obtain ⟨f, s4, hg2, hg⟩ := mb_eq hg
      refine ⟨fun σ'' H'' => ∃ F2 ρ2 e2 s2, Pst X.K F ρ st H F2 ρ2 s2 H'' ∧ ERel X.K F2 ρ2 s2.nxt e2 σ'' ∧ whGo T D mm e2 s2 = some (fl, st'), fun σ'' H'' hN => ⟨mm, Nat.lt_succ_self _, hN⟩, ?_⟩
      refine hD F3 ρ3 e2 s3 f s4 σ' H3 _ p3.wld (R2.step p3) hg2 ?_
      cases f with
      | nx e => exact fun F6 ρ6 σ6 H6 p6 R6 => ⟨F6, ρ6, e, s4, p4.trans p6, R6, hg⟩
      | ct e => exact fun F6 ρ6 σ6 H6 p6 R6 => ⟨F6, ρ6, e, s4, p4.trans p6, R6, hg⟩
      | bk e => cases hg; exact fun F6 ρ6 σ6 H6 p6 R6 => k F6 ρ6 σ6 H6 (p4.trans p6) R6
      | rt v => cases hg; exact fun F6 ρ6 σ6 H6 p6 R6 => k F6 ρ6 σ6 H6 (p4.trans p6) R6
end

/-! ### defs -/
theorem fin_loc_ok {K : PySem.W.Frag} {F F1 : Hp} {ρ ρ1 : Nat → Addr} {st st1 : Sto} {H H1 : Hp} {l : Nat} {c : Cell} (p : Pst K F ρ st H F1 ρ1 st1 H1) (q : st.nxt ≤ l) (hc : st1.cs l = some c) (hlb : c.lb st.nxt = true) :
    ∃ F2 ρ2, Pst K F ρ st H F2 ρ2 ((st1.restr st.nxt).alloc c) H1 ∧ RelP K F2 ρ2 ((st1.restr st.nxt).alloc c).nxt (.loc st.nxt) (.ref (ρ1 l)) := by
    obtain ⟨hF, hr⟩ := p.wld.cell l c hc
    obtain ⟨o, ho⟩ := hr.some'
    rw [ho] at hr
    have e : (st1.kill l).restr st.nxt = st1.restr st.nxt := Sto.restr_kill_ge q
    obtain ⟨F2, s, p2, _, g⟩ := (p.kill l).drop rfl
    rw [e] at p2
    have nF : F2 (ρ1 l) = none := by
      cases z : F2 (ρ1 l) with
      | none => rfl
      | some u =>
        rcases g _ _ z with z | ⟨j, d, h1, h2, h3⟩
        · rw [hF] at z; cases z
        · by_cases hj : j = l
          · subst hj; rw [Sto.kill_get] at h2; cases h2
          · rw [Sto.kill_ne hj] at h2
            exact absurd (p.wld.inj j l d c h2 hc h3) hj
    have p3 := p2.keepL (D := ρ1 l) (o := o) (c := c) (p.fresh l c q hc) nF (fun j d z e => by
      obtain ⟨z1, z2, z3⟩ := Sto.restr_get z
      have := p.wld.inj j l d c z1 hc e
      omega) ho hlb (CRel.low (fun _ _ => rfl) hlb (CRel.mono s (fun _ _ => rfl) (Nat.le_refl _) hr))
    refine ⟨F2, _, p3, ?_⟩
    rw [RelP]
    exact ⟨by rw [Sto.alloc_nxt, Sto.restr_nxt]; omega, by rw [Sto.restr_nxt, if_pos rfl]⟩
theorem fin_ok {K : PySem.W.Frag} {F F1 : Hp} {ρ ρ1 : Nat → Addr} {st st1 st2 : Sto} {H H1 : Hp} {v v' : PV} {w : V} (p : Pst K F ρ st H F1 ρ1 st1 H1) (r : RelP K F1 ρ1 st1.nxt v w) (h : fin st.nxt v st1 = some (v', st2)) :
    ∃ F2 ρ2, Pst K F ρ st H F2 ρ2 st2 H1 ∧ RelP K F2 ρ2 st2.nxt v' w := by
  have go : (v.res st.nxt st1.cs).map (fun v' => (v', st1.restr st.nxt)) = some (v', st2) → ∃ F2 ρ2, Pst K F ρ st H F2 ρ2 st2 H1 ∧ RelP K F2 ρ2 st2.nxt v' w := fun h => by
    obtain ⟨F2, p2, r2⟩ := settle_ok p r h
    exact ⟨F2, ρ1, p2, r2⟩
  unfold fin at h
  split at h
  · rename_i l
    rw [RelP] at r
    obtain ⟨r1, rfl⟩ := r
    split at h
    · rename_i q
      cases h
      obtain ⟨F2, s, p2, _⟩ := p.drop rfl
      refine ⟨F2, ρ1, p2, ?_⟩
      rw [RelP]
      exact ⟨q, rfl⟩
    · rename_i q
      have q := Nat.not_lt.mp q
      cases hc : st1.cs l with
      | none => rw [hc] at h; cases h
      | some c =>
       rw [hc] at h
       have h : (if c.lb st.nxt then some (PV.loc st.nxt, (st1.restr st.nxt).alloc c) else none) = some (v', st2) := h
       split at h
       · rename_i hlb
         cases h
         exact fin_loc_ok p q hc hlb
       · cases h
  · exact go h

/-- where a body stands: names, scope, room -/
structure GoodX (X : Cx) (N : List Str) (sc : Scope) (fn : Str → Bool) (k : Nat) : Prop where
  hN : X.N = N
  hsc : X.env.scope = sc
  hfn : X.fn = fn
  calm : X.calm = true
  nd : N.Nodup
  xe : X.xe = fun _ _ => False
  room : Room k X.A
section
variable {P : Program} {w : World} {K : PySem.W.Frag} {mg : Str → Option Value} {base : Heap}
theorem fn_sound {x qual : Str} {st : Stmt} {f : Addr} {fd : FuncData} {N ps : List Str} {k : Nat} {D : DS} (F : Fun K x qual st f fd) (S : FnScope N ps (defScope st))
    (h : ∀ X : Cx, X.prog = P → X.w = w → X.K = K → X.mg = mg → X.base = base → GoodX X N (defScope st) (fun _ => true) k → SndSs X (defBody st) D) :
    FnOk P w K mg base CX0 (k + 1) f fd ps (spOf K ps.length (runF N.length ps.length D)) := by
  refine F.ok S (fun vs H Q E h => h.1) (fun cdv A outer s H vs Q E hr hsp => ?_)
  obtain ⟨hlen, F0, ρ, st0, args, v, st', W, r, hD, c⟩ := hsp
  refine ⟨_, pss_w, ?_⟩
  unfold runF at hD
  split at hD
  · rename_i hl
    have R : ERel K F0 ρ st0.nxt (args.map some ++ List.replicate (N.length - args.length) none) (L2.start N vs) := by
      unfold L2.start
      rw [r.length]
      refine ⟨by simp [r.length], fun i u e => ?_⟩
      by_cases q : i < args.length
      · rw [List.getElem?_append_left (by rw [List.length_map]; exact q), List.getElem?_map] at e
        cases z : args[i]? with
        | none => rw [z] at e; cases e
        | some y =>
          rw [z] at e; cases e
          obtain ⟨w, hw, rw'⟩ := r.get z
          refine ⟨w, ?_, rw'⟩
          rw [List.getElem?_append_left (by rw [List.length_map, ← r.length]; exact q), List.getElem?_map, hw]
          rfl
      · rw [List.getElem?_append_right (by rw [List.length_map]; omega), List.getElem?_replicate] at e
        split at e <;> cases e
    refine (fun (z : ∃ fl st1, D (args.map some ++ List.replicate (N.length - args.length) none) st0 = some (fl, st1) ∧ EndsOk K F0 ρ st0 H fl st1 { nx := fun _ H' => Q .non H', rt := Q }) => ?_) ?_
    · obtain ⟨fl, st1, z1, z2⟩ := z
      exact h _ rfl rfl rfl rfl rfl ⟨rfl, rfl, rfl, by have := hr.hd; first | rfl | exact decide_eq_true this | simp [cxOf, this], S.nd, rfl, hr⟩ F0 ρ _ st0 fl st1 _ H _ W R z1 z2
    · split at hD
      · rename_i u st1 z
        refine ⟨_, _, z, fun F1 ρ1 w1 H1 p1 r1 => ?_⟩
        obtain ⟨F2, ρ2, p2, r2⟩ := fin_ok p1 r1 hD
        exact c F2 ρ2 w1 H1 p2 r2
      · rename_i e st1 z
        refine ⟨_, _, z, fun F1 ρ1 σ1 H1 p1 R1 => ?_⟩
        obtain ⟨F2, ρ2, p2, r2⟩ := fin_ok p1 rel_non hD
        exact c F2 ρ2 .non H1 p2 r2
      · cases hD
  · cases hD
end
end DL

/-! DL6: from the text's syntax to the pieces, once for all. -/
namespace DL
open PySem PySem.Spec PyProof.Rows L2

/-- what the translator knows: slots, scope, defs (parameters, what they compute), built-ins that are still built-ins, places whose new list may change later -/
structure Ctx where
  N : List Str
  sc : Scope
  fn : Str → Bool
  G : List (Str × Nat × FSem)
  bs : List Str
  mu : List (Nat × Nat × Nat)

def ixOf (x : Str) : List Str → Option Nat
  | [] => none
  | y :: r => if y = x then some 0 else (ixOf x r).map (· + 1)
theorem ixOf_get {x : Str} : ∀ {N : List Str} {i : Nat}, ixOf x N = some i → N[i]? = some x
  | [], _, h => by cases h
  | y :: r, i, h => by
    rw [ixOf] at h
    split at h
    · rename_i e
      cases h
      rw [e]; rfl
    · cases e : ixOf x r with
      | none => rw [e] at h; cases h
      | some j =>
        rw [e] at h; cases h
        show r[j]? = some x
        exact ixOf_get e
def Ctx.flag (C : Ctx) (p : Pos) : Bool := C.mu.contains (p.line, p.col, p.endCol)
def Ctx.isGl (C : Ctx) (x : Str) : Bool := match C.sc.names.lookup x with
  | some .globalImplicit => true
  | _ => false
def Ctx.isB (C : Ctx) (x : Str) : Bool := C.isGl x && C.bs.contains x
def Ctx.vis (C : Ctx) (x : Str) : Bool := match C.sc.names.lookup x with
  | some .local => true
  | some .cell => true
  | some .free => true
  | _ => false
def Ctx.loc (C : Ctx) (x : Str) : Bool := match C.sc.names.lookup x with
  | some .local => true
  | some .cell => C.fn x
  | _ => false

def notStar : Expr → Bool
  | .Starred _ _ => false
  | _ => true
def notSet : Expr → Bool
  | .Set _ _ _ => false
  | _ => true
def notSlice : Expr → Bool
  | .Slice _ _ _ _ => false
  | _ => true
def notComp : Expr → Bool
  | .ListComp _ _ _ _ => false
  | .SetComp _ _ _ _ => false
  | .DictComp _ _ _ _ _ => false
  | _ => true
def notDisp : Expr → Bool
  | .Tuple _ _ _ => false
  | .List _ _ => false
  | _ => true
def notCall : Expr → Bool
  | .Call _ _ _ _ => false
  | _ => true

inductive BI where
  | len | abs | int | max | min | tuple | list | sorted | sum
  deriving DecidableEq
def BI.nm : BI → Str
  | .len => "len" | .abs => "abs" | .int => "int" | .max => "max" | .min => "min" | .tuple => "tuple" | .list => "list" | .sorted => "sorted" | .sum => "sum"
def BI.all : List BI := [.len, .abs, .int, .max, .min, .tuple, .list, .sorted, .sum]
noncomputable def BI.sem (m : Bool) : BI → FSem
  | .len => bLen | .abs => bAbs | .int => bInt | .max => bMax | .min => bMin | .tuple => bTuple | .list => bList m | .sorted => bSorted m | .sum => bSum
def BI.of (x : Str) : Option BI := BI.all.find? fun b => b.nm = x
def BTy.all : List BTy := [.int, .bool, .str, .list, .tuple, .dict]
def BTy.of (x : Str) : Option BTy := BTy.all.find? fun b => b.name = x
theorem BI.of_nm {x : Str} {b : BI} (h : BI.of x = some b) : x = b.nm := by
  have := List.find?_some h
  exact (of_decide_eq_true this).symm
theorem BTy.of_name {x : Str} {b : BTy} (h : BTy.of x = some b) : x = b.name := by
  have := List.find?_some h
  exact (of_decide_eq_true this).symm
inductive LM where
  | append | pop | reverse | popAt | insert | extend
  deriving DecidableEq
def LM.nm : LM → Str
  | .append => "append" | .pop => "pop" | .reverse => "reverse" | .popAt => "pop" | .insert => "insert" | .extend => "extend"
def LM.of (x : Str) (k : Nat) : Option LM := if x = "append" ∧ k = 1 then some .append else if x = "pop" ∧ k = 0 then some .pop else if x = "reverse" ∧ k = 0 then some .reverse else if x = "pop" ∧ k = 1 then some .popAt else if x = "insert" ∧ k = 2 then some .insert else if x = "extend" ∧ k = 1 then some .extend else none
def LM.sem : LM → Nat → FSem
  | .append => mAppend | .pop => mPop | .reverse => mReverse | .popAt => mPopAt | .insert => mInsert | .extend => mExtend

def opSem (m : Bool) : Operator → Option (PV → PV → M PV)
  | .Add => some (opAdd m)
  | .Sub => some opSub
  | .Mult => some opMul
  | .Mod => some opMod
  | .FloorDiv => some opDiv
  | .Pow => some opPow
  | _ => none
def cmpSem : CmpOp → Option (PV → PV → M PV)
  | .Eq => some (cmpEq false)
  | .NotEq => some (cmpEq true)
  | .Lt => some cmpLt
  | .LtE => some (cmpI fun i j => decide (i ≤ j))
  | .Gt => some (cmpI fun i j => decide (j < i))
  | .GtE => some (cmpI fun i j => decide (j ≤ i))
  | .In => some (cmpIn false)
  | .NotIn => some (cmpIn true)
  | _ => none
def isNeg : CmpOp → Option Bool
  | .Is => some false
  | .IsNot => some true
  | _ => none

def trName (C : Ctx) (x : Str) (fz : Bool) : Option DE := match ixOf x C.N with
  | some i => if C.vis x && !(x == ("__debug__" : Str)) && !(x == ("__classdict__" : Str)) then (if fz then some (dFrz i) else some (dVar i)) else none
  | none => none
def trConst : Const → Option DE
  | .int i => some (dCst (.int i))
  | .bool b => some (dCst (.bl b))
  | .str s => some (dCst (.str s))
  | .none => some (dCst .non)
  | _ => none
def trAs (f : Expr → Option DE) : List Expr → Option DA
  | [] => some aNil
  | e :: r => if notStar e then match f e, trAs f r with
    | some A, some D => some (aCons A D)
    | _, _ => none
    else none
def isNone : Expr → Bool
  | .Constant .none _ _ => true
  | _ => false
def trCmp (f : Expr → Option DE) (a : Expr) : List CmpOp → List Expr → Option DE
  | [op], [b] => match isNeg op with
    | some neg => if isNone b then (f a).map (dUn (cmpIsN neg)) else none
    | none => if notSet b then match f a, f b, cmpSem op with
      | some A, some B, some g => some (dBin g A B)
      | _, _, _ => none
      else none
  | _, _ => none
def trBools (f : Expr → Option DE) (op : DE → DE → DE) : List Expr → Option DE
  | [] => none
  | [e] => f e
  | e :: e2 :: r => match f e, trBools f op (e2 :: r) with
    | some A, some D => some (op A D)
    | _, _ => none
def trTests (f : Expr → Option DT) (op : DT → DT → DT) : List Expr → Option DT
  | [] => none
  | [e] => f e
  | e :: e2 :: r => match f e, trTests f op (e2 :: r) with
    | some A, some D => some (op A D)
    | _, _ => none
def trO (f : Expr → Option DE) : Option Expr → Option DO
  | none => some oNone
  | some e => (f e).map oSome
def trSub (C : Ctx) (f : Expr → Option DE) (a i : Expr) (pos : Pos) : Option DE := match i with
  | .Slice lo hi none _ => match f a, trO f lo, trO f hi with
    | some A, some L, some U => some (dSl (C.flag pos) A L U)
    | _, _, _ => none
  | i => if notSlice i then match f a, f i with
    | some A, some I => some (dBin opIx A I)
    | _, _ => none
    else none
def isIsi : List Expr → Option (Expr × Str)
  | [a, .Name t _] => some (a, t)
  | _ => none
def isSet (x : Str) : List Expr → Option Expr
  | [.Call (.Name y _) [a] [] _] => if x = "sorted" ∧ y = "set" then some a else none
  | _ => none
theorem mapS {α β : Type} {D : Option α} {f : α → β} {b : β} (h : D.map f = some b) : ∃ A, D = some A ∧ b = f A := by
  cases D with
  | none => cases h
  | some A => cases h; exact ⟨A, rfl, rfl⟩
theorem isSet_eq {x : Str} {es : List Expr} {a : Expr} (h : isSet x es = some a) : x = "sorted" ∧ ∃ p2 pos2, es = [.Call (.Name "set" p2) [a] [] pos2] := by
  unfold isSet at h
  split at h
  · split at h
    · rename_i q
      cases h
      obtain ⟨rfl, rfl⟩ := q
      exact ⟨rfl, _, _, rfl⟩
    · cases h
  · cases h
noncomputable def trCallN (C : Ctx) (f : Expr → Option DE) (x : Str) (as : List Expr) (pos : Pos) : Option DE := match as with
  | [] => none
  | e :: r =>
    if x = "isinstance" then (if C.isB x then match isIsi (e :: r) with
      | some (a, t) => if notStar a && C.isB t then match BTy.of t, f a with
        | some T, some A => some (dUn (bIsi T) A)
        | _, _ => none
        else none
      | none => none
      else none)
    else if C.isB x then match isSet x (e :: r) with
      | some a => if C.isB "set" && notStar a then (f a).map fun A => dApp (bSortedSet (C.flag pos)) (aCons A aNil) else none
      | none => match BI.of x, trAs f (e :: r) with
        | some b, some D => some (dApp (b.sem (C.flag pos)) D)
        | _, _ => none
    else if C.isGl x && !(x == ("__debug__" : Str)) then match C.G.lookup x, trAs f (e :: r) with
      | some (np, S), some D => if (e :: r).length = np then some (dCall S (C.flag pos) D) else none
      | _, _ => none
    else none
def trGet (f : Expr → Option DE) (o : Expr) : List Expr → Option DE
  | [e, v] => if notStar e && notStar v then match f o, f e, f v with
    | some O, some K, some V => some (dGet2 O K V)
    | _, _, _ => none
    else none
  | _ => none
def trMeth (f : Expr → Option DE) (o : Expr) (name : Str) (as : List Expr) (apos pos : Pos) : Option DE :=
  if name = "get" then (if notCall o && apos.endLine == pos.line then trGet f o as else none)
  else if notCall o && apos.endLine == pos.line then match LM.of name as.length, f o, trAs f as with
    | some m, some O, some D => some (dMetL m.sem O D)
    | _, _, _ => none
  else none
def ownOf (N : List Str) : List (Str × NameKind) → List (Str × Nat)
  | [] => []
  | (x, k) :: r => if k = .local ∨ k = .cell then match ixOf x N with
    | some i => (x, i) :: ownOf N r
    | none => ownOf N r
    else ownOf N r
def Ctx.blk (C : Ctx) (scope : Scope) : Ctx := { C with sc := relS scope C.sc, fn := fun x => scope.names.lookup x == some .cell }
def trTuple (f : Expr → Option (DG × List Nat)) : List Expr → Option (List DG × List Nat)
  | [] => some ([], [])
  | e :: r => if notStar e then match f e, trTuple f r with
    | some (G, js), some (Gs, ks) => some (G :: Gs, js ++ ks)
    | _, _ => none
    else none
noncomputable def trLc (C : Ctx) (m : Bool) (scope : Scope) (tE : Ctx → Expr → Option DE) (tT : Ctx → Expr → Option DT) (tI : Ctx → Expr → Option DI) (tG : Ctx → Expr → Option (DG × List Nat)) (elt tg it : Expr) (ifs : List Expr) : Option DE :=
  if blkC C.N C.sc scope (ownOf C.N scope.names) && notSet it then
    match tI C it, tG (C.blk scope) tg, tE (C.blk scope) elt with
    | some I, some (G, js), some A =>
      if js.all fun j => ((ownOf C.N scope.names).map (·.2)).contains j then
        match ifs with
        | [] => some (dLc m ((ownOf C.N scope.names).map (·.2)) I G tYes A)
        | [c] => (tT (C.blk scope) c).map fun T => dLc m ((ownOf C.N scope.names).map (·.2)) I G T A
        | _ => none
      else none
    | _, _, _ => none
  else none
def isOneGen : List Comprehension → Option (Expr × Expr × List Expr)
  | [⟨tg, it, ifs, a⟩] => if a = 0 then some (tg, it, ifs) else none
  | _ => none
def isRng (C : Ctx) : Expr → Option (List Expr)
  | .Call (.Name x _) as [] _ => if x = "range" ∧ C.isB x then some as else none
  | _ => none

def isRev (C : Ctx) : Expr → Option Expr
  | .Call (.Name x _) [a] [] _ => if x = "reversed" ∧ C.isB x then some a else none
  | _ => none
theorem isRev_eq {C : Ctx} {e a : Expr} (h : isRev C e = some a) : ∃ p pos, e = .Call (.Name "reversed" p) [a] [] pos ∧ C.isB "reversed" = true := by
  unfold isRev at h
  split at h
  · split at h
    · rename_i q
      cases h
      obtain ⟨rfl, q⟩ := q
      exact ⟨_, _, rfl, q⟩
    · cases h
  · cases h
abbrev FE := Ctx → Expr → Option DE
abbrev FT := Ctx → Expr → Option DT
abbrev FI := Ctx → Expr → Option DI
abbrev FG := Ctx → Expr → Option (DG × List Nat)
noncomputable def trE1 (tE : FE) (tT : FT) (tI : FI) (tG : FG) (C : Ctx) (e : Expr) : Option DE := match e with
    | .Name x p => trName C x (C.flag p)
    | .Constant c _ _ => trConst c
    | .BinOp a op b p => match tE C a, tE C b, opSem (C.flag p) op with
      | some A, some B, some g => some (dBin g A B)
      | _, _, _ => none
    | .UnaryOp op a _ => match op with
      | .USub => (tE C a).map (dUn opNeg)
      | .Not => (tE C a).map (dUn opNot)
      | _ => none
    | .BoolOp op es _ => match op with
      | .And => trBools (tE C) dAnd es
      | .Or => trBools (tE C) dOr es
    | .Compare a ops bs _ => trCmp (tE C) a ops bs
    | .IfExp t a b _ => match tT C t, tE C a, tE C b with
      | some T, some A, some B => some (dIte T A B)
      | _, _, _ => none
    | .Tuple es _ _ => (trAs (tE C) es).map dTup
    | .List es p => (trAs (tE C) es).map (dLst (C.flag p))
    | .Dict ks vs p => match ks, vs with
      | [], [] => some (dDct0 (C.flag p))
      | _, _ => none
    | .Subscript a i p => trSub C (tE C) a i p
    | .Call f as ks p => match ks with
      | [] => match f with
        | .Name x _ => trCallN C (tE C) x as p
        | .Attribute o name ap => trMeth (tE C) o name as ap p
        | _ => none
      | _ => none
    | .ListComp elt gs scope p => match isOneGen gs with
      | some (tg, it, ifs) => trLc C (C.flag p) scope tE tT tI tG elt tg it ifs
      | none => none
    | _ => none
def trT1 (tE : FE) (tT : FT) (C : Ctx) (e : Expr) : Option DT := match e with
    | .UnaryOp op a p => match op with
      | .Not => (tT C a).map tNot
      | _ => none
    | .BoolOp op es _ => match op with
      | .And => trTests (tT C) tAnd es
      | .Or => trTests (tT C) tOr es
    | .Compare a ops bs _ => (trCmp (tE C) a ops bs).map tVal
    | .Name x p => (tE C (.Name x p)).map tVal
    | .Call f as ks p => (tE C (.Call f as ks p)).map tVal
    | .Subscript a i p => (tE C (.Subscript a i p)).map tVal
    | _ => none
def trI1 (tE : FE) (C : Ctx) (e : Expr) : Option DI := match isRng C e with
    | some [a] => if notStar a then (tE C a).map iRng1 else none
    | some [a, b] => if notStar a && notStar b then match tE C a, tE C b with
      | some A, some B => some (iRng2 A B)
      | _, _ => none
      else none
    | some _ => none
    | none => match isRev C e with
      | some a => if notStar a then (tE C a).map iRev else none
      | none => (tE C e).map iSeq
def trG1 (tE : FE) (tG : FG) (C : Ctx) (e : Expr) : Option (DG × List Nat) := match e with
    | .Name x _ => match ixOf x C.N with
      | some i => if C.loc x then some (gName i, [i]) else none
      | none => none
    | .Tuple es _ _ => match trTuple (tG C) es with
      | some (Gs, js) => some (gTup Gs, js)
      | none => none
    | .Subscript o i _ => if notSlice i then match tE C o, tE C i with
      | some O, some I => some (gSub O I, [])
      | _, _ => none
      else none
    | _ => none
mutual
noncomputable def trE : Nat → FE
  | 0 => fun _ _ => none
  | n + 1 => trE1 (trE n) (trT n) (trI n) (trG n)
noncomputable def trT : Nat → FT
  | 0 => fun _ _ => none
  | n + 1 => trT1 (trE n) (trT n)
noncomputable def trI : Nat → FI
  | 0 => fun _ _ => none
  | n + 1 => trI1 (trE n)
noncomputable def trG : Nat → FG
  | 0 => fun _ _ => none
  | n + 1 => trG1 (trE n) (trG n)
end
def isLcAsg (C : Ctx) (pos : Pos) : List Expr → Expr → Option (Str × Expr × Expr × Expr × List Expr × Scope × Pos)
  | [.Name y py], .ListComp elt gs scope p => match isOneGen gs with
    | some (tg, it, ifs) => if py.line == p.line && !(scope.names.any fun (n, k) => n == y && (k == .local || k == .cell)) then some (y, elt, tg, it, ifs, scope, p) else none
    | none => none
  | _, _ => none
def isLocal (C : Ctx) (x : Str) : Bool := match C.sc.names.lookup x with
  | some .local => true
  | _ => false
def okAsg : List Expr → Expr → Bool
  | [.Name _ _], e => notComp e
  | [.Tuple _ _ _], e => notComp e && notDisp e
  | [.Subscript _ _ _], e => notComp e
  | _, _ => false
abbrev FS := Ctx → Stmt → Option DS
abbrev FSs := Ctx → List Stmt → Option DS
noncomputable def trS1 (tE : FE) (tT : FT) (tI : FI) (tG : FG) (tSs : FSs) (C : Ctx) (s : Stmt) : Option DS := match s with
    | .Return v _ => match v with
      | none => some sRetN
      | some e => (tE C e).map sRet
    | .Expr e _ => match e with
      | .Constant (.str _) _ _ => some sPass
      | .Call f as ks p => (tE C (.Call f as ks p)).map sExpr
      | _ => none
    | .Assign tgs e pos => match isLcAsg C pos tgs e with
      | some (y, elt, tg, it, ifs, scope, p) => match trLc C (C.flag p) scope tE tT tI tG elt tg it ifs, ixOf y C.N with
        | some A, some i => if isLocal C y then some (sAsg A (gName i)) else if C.loc y then some (sAsg A (gName i)) else none
        | _, _ => none
      | none => if okAsg tgs e then match tE C e, tG C (tgs.headD e) with
        | some A, some (G, _) => some (sAsg A G)
        | _, _ => none
        else none
    | .If t a b _ => match tT C t, tSs C a, tSs C b with
      | some T, some A, some B => some (sIf T A B)
      | _, _, _ => none
    | .For tg it a b _ => match b with
      | [] => if notSet it then match tI C it, tG C tg, tSs C a with
        | some I, some (G, _), some A => some (sFor I G A)
        | _, _, _ => none
        else none
      | _ => none
    | .While t a b _ => match b with
      | [] => match tT C t, tSs C a with
        | some T, some A => some (sWhile T A)
        | _, _ => none
      | _ => none
    | .Pass _ => some sPass
    | .Break _ => some sBreak
    | .Continue _ => some sCont
    | _ => none
def trSs1 (tS : FS) (tSs : FSs) (C : Ctx) (ss : List Stmt) : Option DS := match ss with
    | [] => some sPass
    | [s] => tS C s
    | s :: r => match tS C s, tSs C r with
      | some A, some B => some (sSeq A B)
      | _, _ => none
mutual
noncomputable def trS : Nat → FS
  | 0 => fun _ _ => none
  | n + 1 => trS1 (trE n) (trT n) (trI n) (trG n) (trSs n)
noncomputable def trSs : Nat → FSs
  | 0 => fun _ _ => none
  | n + 1 => trSs1 (trS n) (trSs n)
end

/-! ### it is right -/
/-- the defs keep their promises -/
def GOk (X : Cx) (G : List (Str × Nat × FSem)) (k : Nat) : Prop := ∀ x np S, G.lookup x = some (np, S) → ∃ f fd ps, FnOk X.prog X.w X.K X.mg X.base CX0 k f fd ps (spOf X.K np S) ∧ X.mg x = some (.ref f) ∧ PySem.W.keepIn X.K (.ref f) = true ∧ Binds X.K fd ps []
structure Good (X : Cx) (C : Ctx) (k : Nat) : Prop where
  x : GoodX X C.N C.sc C.fn k
  g : GOk X C.G k
  b : ∀ n, C.bs.contains n = true → X.mg n = none
  kd : X.env.scope.kind = .function
section
variable {X : Cx} {C : Ctx} {k : Nat}
theorem Good.gl (g : Good X C k) {x : Str} (h : C.isGl x = true) : Gl X x := by
  unfold Ctx.isGl at h
  show X.env.scope.names.lookup x = some .globalImplicit
  rw [g.x.hsc]
  split at h
  · assumption
  · cases h
theorem Good.bi (g : Good X C k) {x : Str} (h : C.isB x = true) : Gl X x ∧ X.mg x = none := by
  unfold Ctx.isB at h
  rw [Bool.and_eq_true] at h
  exact ⟨g.gl h.1, g.b x h.2⟩
theorem Good.vis (g : Good X C k) {x : Str} (h : C.vis x = true) : Vis X.env.scope x := by
  unfold Ctx.vis at h
  unfold Vis
  rw [g.x.hsc]
  split at h
  · exact .inl (by assumption)
  · exact .inr (.inl (by assumption))
  · exact .inr (.inr (by assumption))
  · cases h
theorem Good.loc (g : Good X C k) {x : Str} (h : C.loc x = true) : L2.Loc X.env.scope x ∧ (X.fn x = true ∨ X.env.scope.names.lookup x = some .local) := by
  unfold Ctx.loc at h
  unfold L2.Loc
  rw [g.x.hsc, g.x.hfn]
  split at h
  · exact ⟨.inl (by assumption), .inr (by assumption)⟩
  · exact ⟨.inr (by assumption), .inl h⟩
  · cases h
theorem Good.blk (g : Good X C k) (scope : Scope) (hk : scope.kind = .function) : Blk X scope fun Y => Good Y (C.blk scope) k := fun s H A cl fp => by
  refine ⟨⟨g.x.hN, ?_, rfl, g.x.calm, g.x.nd, rfl, g.x.room⟩, g.g, g.b, hk⟩
  show relabel scope X.env = relS scope C.sc
  rw [← g.x.hsc]
  rfl
theorem starEach_cons {e : Expr} {es : List Expr} {env : PySem.Env} (h : notStar e = true) : starEach (e :: es) env = (false, eval e env) :: starEach es env := by
  cases e <;> first | rfl | cases h
theorem starEach_plain {env : PySem.Env} {pos : Pos} : ∀ {es : List Expr}, es.all notStar = true → (backTo pos (starEach es env)).any (·.1) = false ∧ (starEach es env).length = es.length
  | [], _ => by
    have e : starEach [] env = [] := rfl
    rw [e]; exact ⟨rfl, rfl⟩
  | e :: es, h => by
    rw [List.all_cons, Bool.and_eq_true] at h
    obtain ⟨h1, h2⟩ := starEach_plain (env := env) (pos := pos) h.2
    rw [starEach_cons h.1]
    refine ⟨?_, by rw [List.length_cons, List.length_cons, h2]⟩
    show (false || (backTo pos (starEach es env)).any (·.1)) = false
    rw [h1]; rfl
theorem trAs_plain {f : Expr → Option DE} : ∀ {es : List Expr} {D : DA}, trAs f es = some D → es.all notStar = true
  | [], _, _ => rfl
  | e :: r, D, h => by
    rw [trAs] at h
    split at h
    · rename_i q
      split at h
      · rename_i A D' _ h2
        rw [List.all_cons, q, trAs_plain h2]; rfl
      · cases h
    · cases h
theorem trAs_ok {f : Expr → Option DE} (hf : ∀ e A, f e = some A → SndE X e A) : ∀ {es : List Expr} {D : DA}, trAs f es = some D → SndA X es D
  | [], _, h => by rw [trAs] at h; cases h; exact snd_anil
  | e :: r, D, h => by
    rw [trAs] at h
    split at h
    · rename_i q
      split at h
      · rename_i A D' h1 h2
        cases h
        exact snd_acons (starEach_cons q) (hf e A h1) (trAs_ok hf h2)
      · cases h
    · cases h
theorem trAs_len {f : Expr → Option DE} : ∀ {es : List Expr} {D : DA}, trAs f es = some D → ∀ env st xs st', D env st = some (xs, st') → xs.length = es.length
  | [], _, h, env, st, xs, st', h2 => by rw [trAs] at h; cases h; cases h2; rfl
  | e :: r, D, h, env, st, xs, st', h2 => by
    rw [trAs] at h
    split at h
    · split at h
      · rename_i A D' _ hd
        cases h
        obtain ⟨x, s1, _, h2⟩ := mb_eq h2
        obtain ⟨ys, s2, h3, h2⟩ := mb_eq h2
        cases h2
        rw [List.length_cons, List.length_cons, trAs_len hd _ _ _ _ h3]
      · cases h
    · cases h
theorem opSem_ok {m : Bool} {op : Operator} {g : PV → PV → M PV} (h : opSem m op = some g) : SndO X (binaryOp op) g := by
  cases op <;> cases h
  · exact so_add
  · exact so_sub
  · exact so_mul
  · exact so_mod
  · exact so_pow
  · exact so_div
theorem cmpSem_ok (g : Good X C k) {op : CmpOp} {f : PV → PV → M PV} (h : cmpSem op = some f) : SndO X (compareOp op) f := by
  have hu : X.A.units + 65 < cLine := by have := g.x.room.un; omega
  cases op <;> cases h
  · exact so_eq hu
  · exact so_ne hu
  · exact so_lt hu
  · exact so_le
  · exact so_gt
  · exact so_ge
  · exact so_in hu
  · exact so_notIn hu
theorem isNone_eq {b : Expr} (h : isNone b = true) : ∃ j p, b = .Constant .none j p := by
  unfold isNone at h
  split at h
  · exact ⟨_, _, rfl⟩
  · cases h
theorem isNeg_eq {op : CmpOp} {neg : Bool} (h : isNeg op = some neg) : op = isOp neg := by
  cases op <;> cases h <;> rfl
theorem noMark {op : CmpOp} {b : Expr} (h : notSet b = true) : behindInMarks op b = false := by
  cases b <;> first | rfl | cases h
theorem trCmp_ok (g : Good X C k) {f : Expr → Option DE} (hf : ∀ e A, f e = some A → SndE X e A) {a : Expr} {ops : List CmpOp} {bs : List Expr} {pos : Pos} {D : DE} (h : trCmp f a ops bs = some D) : SndE X (.Compare a ops bs pos) D ∧ SndT X (.Compare a ops bs pos) (tVal D) := by
  unfold trCmp at h
  split at h
  · rename_i op b
    split at h
    · rename_i neg hn
      split at h
      · rename_i hb
        obtain ⟨j, p, rfl⟩ := isNone_eq hb
        cases isNeg_eq hn
        cases ha : f a with
        | none => rw [ha] at h; cases h
        | some A =>
          rw [ha] at h; cases h
          exact ⟨snd_isN (hf a A ha), tst_isN (hf a A ha)⟩
      · cases h
    · split at h
      · rename_i hs
        split at h
        · rename_i A B q ha hb hq
          cases h
          exact ⟨snd_cmp (cmpSem_ok g hq) (hf a A ha) (hf b B hb) (noMark hs), tst_cmp (cmpSem_ok g hq) (hf a A ha) (hf b B hb) (noMark hs)⟩
        · cases h
      · cases h
  · cases h
theorem trBools_and {f : Expr → Option DE} (hf : ∀ e A, f e = some A → SndE X e A) {pos : Pos} : ∀ {es : List Expr} {D : DE}, trBools f dAnd es = some D → SndE X (.BoolOp .And es pos) D
  | [], _, h => by cases h
  | [e], D, h => snd_one (hf e D h)
  | e :: e2 :: r, D, h => by
    rw [trBools] at h
    split at h
    · rename_i A D' h1 h2
      cases h
      exact snd_and (hf e A h1) (trBools_and hf h2)
    · cases h
theorem trBools_or {f : Expr → Option DE} (hf : ∀ e A, f e = some A → SndE X e A) {pos : Pos} : ∀ {es : List Expr} {D : DE}, trBools f dOr es = some D → SndE X (.BoolOp .Or es pos) D
  | [], _, h => by cases h
  | [e], D, h => snd_one (hf e D h)
  | e :: e2 :: r, D, h => by
    rw [trBools] at h
    split at h
    · rename_i A D' h1 h2
      cases h
      exact snd_or (hf e A h1) (trBools_or hf h2)
    · cases h
theorem trTests_and {f : Expr → Option DT} (hf : ∀ e A, f e = some A → SndT X e A) {pos : Pos} : ∀ {es : List Expr} {D : DT}, trTests f tAnd es = some D → SndW X (.BoolOp .And es pos) D
  | [], _, h => by cases h
  | [e], D, h => w_and1 (hf e D h)
  | e :: e2 :: r, D, h => by
    rw [trTests] at h
    split at h
    · rename_i A D' h1 h2
      cases h
      exact w_and (hf e A h1) (trTests_and hf h2)
    · cases h
theorem trTests_or {f : Expr → Option DT} (hf : ∀ e A, f e = some A → SndT X e A) {pos : Pos} : ∀ {es : List Expr} {D : DT}, trTests f tOr es = some D → SndW X (.BoolOp .Or es pos) D
  | [], _, h => by cases h
  | [e], D, h => w_or1 (hf e D h)
  | e :: e2 :: r, D, h => by
    rw [trTests] at h
    split at h
    · rename_i A D' h1 h2
      cases h
      exact w_or (hf e A h1) (trTests_or hf h2)
    · cases h
theorem trO_ok {f : Expr → Option DE} (hf : ∀ e A, f e = some A → SndE X e A) {o : Option Expr} {D : DO} (h : trO f o = some D) : SndOp X o D := by
  cases o with
  | none => cases h; exact sop_none
  | some e =>
    rw [trO] at h
    cases ha : f e with
    | none => rw [ha] at h; cases h
    | some A => rw [ha] at h; cases h; exact sop_some (hf e A ha)
theorem plainIx {i : Expr} (h : notSlice i = true) : PlainIx i := by
  intro o v
  cases i <;> first | rfl | cases h
theorem trSub_ok (hu : X.A.units + 65 < cLine) {f : Expr → Option DE} (hf : ∀ e A, f e = some A → SndE X e A) {a i : Expr} {pos : Pos} {D : DE} (h : trSub C f a i pos = some D) : SndE X (.Subscript a i pos) D := by
  unfold trSub at h
  split at h
  · split at h
    · rename_i A L U h1 h2 h3
      cases h
      exact snd_sl (hf _ _ h1) (trO_ok hf h2) (trO_ok hf h3)
    · cases h
  · split at h
    · rename_i hs
      split at h
      · rename_i A I h1 h2
        cases h
        exact snd_ix (plainIx hs) (hf _ _ h1) (hf _ _ h2) (snd_opIx hu)
      · cases h
    · cases h
theorem bi_ok (g : Good X C k) {b : BI} {m : Bool} {e : Expr} {es : List Expr} {D : DA} {p pos : Pos} (hg : Gl X b.nm) (hm : X.mg b.nm = none) (ha : SndA X (e :: es) D) (he : starEach (e :: es) X.env = (false, eval e X.env) :: starEach es X.env) (hpl : (backTo pos (starEach es X.env)).any (·.1) = false) :
    SndE X (.Call (.Name b.nm p) (e :: es) [] pos) (dApp (b.sem m) D) := by
  cases b
  · exact snd_callB sc_len hg hm (by decide +kernel) ha (by decide +kernel) (by decide +kernel) he hpl
  · exact snd_callB sc_abs hg hm (by decide +kernel) ha (by decide +kernel) (by decide +kernel) he hpl
  · exact snd_callTy sc_int hg hm (by decide +kernel) ha (by decide +kernel) (by decide +kernel) he hpl
  · exact snd_callB (sc_max g.x.calm) hg hm (by decide +kernel) ha (by decide +kernel) (by decide +kernel) he hpl
  · exact snd_callB (sc_min g.x.calm) hg hm (by decide +kernel) ha (by decide +kernel) (by decide +kernel) he hpl
  · exact snd_callTy sc_tuple hg hm (by decide +kernel) ha (by decide +kernel) (by decide +kernel) he hpl
  · exact snd_callTy sc_list hg hm (by decide +kernel) ha (by decide +kernel) (by decide +kernel) he hpl
  · exact snd_callB (sc_sorted g.x.calm (by have := g.x.room.un; omega)) hg hm (by decide +kernel) ha (by decide +kernel) (by decide +kernel) he hpl
  · exact snd_callB (sc_sum g.x.calm) hg hm (by decide +kernel) ha (by decide +kernel) (by decide +kernel) he hpl
theorem isIsi_eq {es : List Expr} {a : Expr} {t : Str} (h : isIsi es = some (a, t)) : ∃ p, es = [a, .Name t p] := by
  unfold isIsi at h
  split at h
  · cases h; exact ⟨_, rfl⟩
  · cases h
theorem trCallN_ok (g : Good X C k) {f : Expr → Option DE} (hf : ∀ e A, f e = some A → SndE X e A) {x : Str} {as : List Expr} {p pos : Pos} {D : DE} (h : trCallN C f x as pos = some D) : SndE X (.Call (.Name x p) as [] pos) D := by
  unfold trCallN at h
  split at h
  · cases h
  · rename_i e r
    split at h
    · rename_i hx
      split at h
      · rename_i hb
        split at h
        · rename_i a t hi
          split at h
          · rename_i hs
            rw [Bool.and_eq_true] at hs
            split at h
            · rename_i T A hT hA
              cases h
              obtain ⟨p2, hi⟩ := isIsi_eq hi
              rw [hi]
              cases BTy.of_name hT
              obtain ⟨g1, g2⟩ := g.bi hb
              obtain ⟨g3, g4⟩ := g.bi hs.2
              exact snd_isi hx g1 g2 g3 g4 (hf a A hA) (starEach_cons hs.1)
            · cases h
          · cases h
        · cases h
      · cases h
    · split at h
      · rename_i hb
        split at h
        · rename_i a ha
          split at h
          · rename_i hs
            rw [Bool.and_eq_true] at hs
            obtain ⟨A, h1, rfl⟩ := mapS h
            obtain ⟨rfl, p2, pos2, he⟩ := isSet_eq ha
            obtain ⟨g1, g2⟩ := g.bi hb
            obtain ⟨g3, g4⟩ := g.bi hs.1
            rw [he]
            exact snd_sortedSet g.x.calm (by have := g.x.room.un; omega) g1 g2 g3 g4 (snd_acons (starEach_cons hs.2) (hf _ _ h1) snd_anil) (starEach_cons hs.2)
          · cases h
        split at h
        · rename_i b D' h1 h2
          cases h
          cases BI.of_nm h1
          obtain ⟨g1, g2⟩ := g.bi hb
          have hp := trAs_plain h2
          rw [List.all_cons, Bool.and_eq_true] at hp
          exact bi_ok g g1 g2 (trAs_ok hf h2) (starEach_cons hp.1) (starEach_plain hp.2).1
        · cases h
      · split at h
        · rename_i hb
          rw [Bool.and_eq_true] at hb
          split at h
          · rename_i np S D' h1 h2
            split at h
            · rename_i hnp
              cases h
              obtain ⟨fa, fd, ps, h3, h4, h5, h6⟩ := g.g x np S h1
              have hp := trAs_plain h2
              rw [List.all_cons, Bool.and_eq_true] at hp
              have hd : (x == ("__debug__" : Str)) = false := by
                have := hb.2
                cases q : x == ("__debug__" : Str) with
                | true => rw [q] at this; cases this
                | false => rfl
              exact snd_call h3 g.x.room (g.gl hb.1) h4 h5 h6 hnp (trAs_ok hf h2) (fun env st xs st' z => by rw [trAs_len h2 env st xs st' z]; exact hnp) hd (starEach_cons hp.1) (starEach_plain hp.2).1
            · cases h
          · cases h
        · cases h
theorem attrBase {o : Expr} {name : Str} {env : PySem.Env} (h : notCall o = true) : attributeBase o name env (eval o env) = eval o env := by
  cases o <;> first | rfl | cases h
theorem trMeth_ok (g : Good X C k) {f : Expr → Option DE} (hf : ∀ e A, f e = some A → SndE X e A) {o : Expr} {name : Str} {as : List Expr} {ap pos : Pos} {D : DE} (h : trMeth f o name as ap pos = some D) : SndE X (.Call (.Attribute o name ap) as [] pos) D := by
  unfold trMeth at h
  split at h
  · rename_i hn
    split at h
    · rename_i hc
      rw [Bool.and_eq_true] at hc
      unfold trGet at h
      split at h
      · rename_i e v
        split at h
        · rename_i hs
          rw [Bool.and_eq_true] at hs
          split at h
          · rename_i O K V h1 h2 h3
            cases h
            rw [hn]
            refine snd_get2 (by have := g.x.room.un; omega) (hf _ _ h1) (hf _ _ h2) (hf _ _ h3) ⟨attrBase hc.1, ?_, hc.2, ?_⟩
            · rw [starEach_cons hs.1, starEach_cons hs.2]; rfl
            · rw [starEach_cons hs.1, starEach_cons hs.2]; rfl
          · cases h
        · cases h
      · cases h
    · cases h
  split at h
  · rename_i hc
    rw [Bool.and_eq_true] at hc
    split at h
    · rename_i m O D' h1 h2 h3
      cases h
      unfold LM.of at h1
      split at h1
      · rename_i q
        cases h1
        obtain ⟨rfl, hl⟩ := q
        cases as with
        | nil => cases hl
        | cons e r =>
          cases r with
          | cons _ _ => cases hl
          | nil =>
            have hp := trAs_plain h3
            rw [List.all_cons, Bool.and_eq_true] at hp
            refine snd_met PySem.F.slot_list_append PySem.F.type_list_append sm_append (hf _ _ h2) (trAs_ok hf h3) (attrBase hc.1) ?_ hc.2 (starEach_cons hp.1) (starEach_plain hp.2).1
            rw [starEach_cons hp.1]
            rfl
      · split at h1
        · rename_i q
          cases h1
          obtain ⟨rfl, hl⟩ := q
          cases as with
          | cons _ _ => cases hl
          | nil =>
            rw [trAs] at h3; cases h3
            exact snd_met0 PySem.F.slot_list_pop PySem.F.type_list_pop sm_pop (hf _ _ h2) (attrBase hc.1) hc.2
        · split at h1
          · rename_i q
            cases h1
            obtain ⟨rfl, hl⟩ := q
            cases as with
            | cons _ _ => cases hl
            | nil =>
              rw [trAs] at h3; cases h3
              exact snd_met0 PySem.F.slot_list_reverse PySem.F.type_list_reverse sm_reverse (hf _ _ h2) (attrBase hc.1) hc.2
          · split at h1
            · rename_i q
              cases h1
              obtain ⟨rfl, hl⟩ := q
              cases as with
              | nil => cases hl
              | cons e r =>
                cases r with
                | cons _ _ => cases hl
                | nil =>
                  have hp := trAs_plain h3
                  rw [List.all_cons, Bool.and_eq_true] at hp
                  refine snd_met PySem.F.slot_list_pop PySem.F.type_list_pop sm_popAt (hf _ _ h2) (trAs_ok hf h3) (attrBase hc.1) ?_ hc.2 (starEach_cons hp.1) (starEach_plain hp.2).1
                  rw [starEach_cons hp.1]
                  rfl
            · split at h1
              · rename_i q
                cases h1
                obtain ⟨rfl, hl⟩ := q
                cases as with
                | nil => cases hl
                | cons e r =>
                  cases r with
                  | nil => cases hl
                  | cons e2 r =>
                    cases r with
                    | cons _ _ => cases hl
                    | nil =>
                      have hp := trAs_plain h3
                      rw [List.all_cons, List.all_cons, Bool.and_eq_true, Bool.and_eq_true] at hp
                      refine snd_met PySem.F.slot_list_insert PySem.F.type_list_insert sm_insert (hf _ _ h2) (trAs_ok hf h3) (attrBase hc.1) ?_ hc.2 (starEach_cons hp.1) (starEach_plain (by rw [List.all_cons, hp.2.1]; rfl)).1
                      rw [starEach_cons hp.1, starEach_cons hp.2.1]
                      rfl
              · split at h1
                · rename_i q
                  cases h1
                  obtain ⟨rfl, hl⟩ := q
                  cases as with
                  | nil => cases hl
                  | cons e r =>
                    cases r with
                    | cons _ _ => cases hl
                    | nil =>
                      have hp := trAs_plain h3
                      rw [List.all_cons, Bool.and_eq_true] at hp
                      refine snd_met PySem.F.slot_list_extend PySem.F.type_list_extend sm_extend (hf _ _ h2) (trAs_ok hf h3) (attrBase hc.1) ?_ hc.2 (starEach_cons hp.1) (starEach_plain hp.2).1
                      rw [starEach_cons hp.1]
                      rfl
                · cases h1
    · cases h
  · cases h
theorem foldSet {it : Expr} {env : PySem.Env} (h : notSet it = true) : ∀ x, foldedSetIterable it env x = pure x := by
  intro x
  cases it <;> first | rfl | cases h
theorem isOneGen_eq {gs : List Comprehension} {tg it : Expr} {ifs : List Expr} (h : isOneGen gs = some (tg, it, ifs)) : gs = [⟨tg, it, ifs, 0⟩] := by
  unfold isOneGen at h
  split at h
  · split at h
    · rename_i q
      cases h
      rw [q]
    · cases h
  · cases h
/-- what a comprehension's pieces are -/
theorem trLc_ok (g : Good X C k) {tE : Ctx → Expr → Option DE} {tT : Ctx → Expr → Option DT} {tI : Ctx → Expr → Option DI} {tG : Ctx → Expr → Option (DG × List Nat)}
    (hE : ∀ (Y : Cx) (C' : Ctx) e A, Good Y C' k → tE C' e = some A → SndE Y e A) (hT : ∀ (Y : Cx) (C' : Ctx) e A, Good Y C' k → tT C' e = some A → SndT Y e A) (hI : ∀ (Y : Cx) (C' : Ctx) tg e A, Good Y C' k → tI C' e = some A → SndI Y tg e A) (hG : ∀ (Y : Cx) (C' : Ctx) e A js, Good Y C' k → tG C' e = some (A, js) → SndG Y e A js)
    {m : Bool} {scope : Scope} {elt tg it : Expr} {ifs : List Expr} {D : DE} (h : trLc C m scope tE tT tI tG elt tg it ifs = some D) :
    ∃ (own : List (Str × Nat)) (I : DI) (G : DG) (js : List Nat) (T : DT) (A : DE), D = dLc m (own.map (·.2)) I G T A ∧ BlkOk X.N X.env.scope scope own ∧ notSet it = true ∧ SndI X tg it I ∧ (Blk X scope fun Y => SndG Y tg G js) ∧ (∀ j ∈ js, j ∈ own.map (·.2)) ∧ Ifs X scope ifs T ∧ (Blk X scope fun Y => SndE Y elt A) := by
  unfold trLc at h
  split at h
  · rename_i hb
    rw [Bool.and_eq_true] at hb
    have hB : BlkOk X.N X.env.scope scope (ownOf C.N scope.names) := by
      rw [g.x.hN, g.x.hsc]; exact blkOk_by hb.1
    split at h
    · rename_i I G js A h1 h2 h3
      split at h
      · rename_i hj
        rw [List.all_eq_true] at hj
        have hjs : ∀ j ∈ js, j ∈ (ownOf C.N scope.names).map (·.2) := fun j z => List.contains_iff_mem.mp (hj j z)
        split at h
        · cases h
          exact ⟨_, I, G, js, tYes, A, rfl, hB, hb.2, hI X C tg it I g h1, fun s H B cl fp => hG _ _ tg G js (g.blk scope hB.kind s H B cl fp) h2, hjs, .nil, fun s H B cl fp => hE _ _ elt A (g.blk scope hB.kind s H B cl fp) h3⟩
        · rename_i c
          cases hc : tT (C.blk scope) c with
          | none => rw [hc] at h; cases h
          | some T =>
            rw [hc] at h; cases h
            exact ⟨_, I, G, js, T, A, rfl, hB, hb.2, hI X C tg it I g h1, fun s H B cl fp => hG _ _ tg G js (g.blk scope hB.kind s H B cl fp) h2, hjs, .one fun s H B cl fp => hT _ _ c T (g.blk scope hB.kind s H B cl fp) hc, fun s H B cl fp => hE _ _ elt A (g.blk scope hB.kind s H B cl fp) h3⟩
        · cases h
      · cases h
    · cases h
  · cases h
theorem isRng_eq {e : Expr} {as : List Expr} (h : isRng C e = some as) : ∃ p p2, e = .Call (.Name "range" p) as [] p2 ∧ C.isB "range" = true := by
  unfold isRng at h
  split at h
  · split at h
    · rename_i q
      cases h
      obtain ⟨rfl, q⟩ := q
      exact ⟨_, _, rfl, q⟩
    · cases h
  · cases h
theorem assignEach_cons {e : Expr} {es : List Expr} {env : PySem.Env} (h : notStar e = true) : assignEach (e :: es) env = (false, assign e env) :: assignEach es env := by
  cases e <;> first | rfl | cases h
theorem trTuple_ok {f : Expr → Option (DG × List Nat)} (hf : ∀ e A js, f e = some (A, js) → SndG X e A js) : ∀ {es : List Expr} {Gs : List DG} {js : List Nat}, trTuple f es = some (Gs, js) → SndGs X es (gList Gs) js ∧ (assignEach es X.env).length = Gs.length ∧ (assignEach es X.env).findIdx? (·.1) = none
  | [], _, _, h => by
    rw [trTuple] at h; cases h
    exact ⟨sgs_nil, rfl, rfl⟩
  | e :: r, Gs, js, h => by
    rw [trTuple] at h
    split at h
    · rename_i q
      split at h
      · rename_i G j1 Gs' j2 h1 h2
        cases h
        obtain ⟨k1, k2, k3⟩ := trTuple_ok hf h2
        refine ⟨sgs_cons (hf e G j1 h1) k1 ?_, ?_, ?_⟩
        · rw [assignEach_cons q]; rfl
        · rw [assignEach_cons q, List.length_cons, List.length_cons, k2]
        · rw [assignEach_cons q, List.findIdx?_cons, k3]; rfl
      · cases h
    · cases h
theorem tv (D : Option DE) {T : DT} (h : D.map tVal = some T) : ∃ A, D = some A ∧ T = tVal A := by
  cases D with
  | none => cases h
  | some A => cases h; exact ⟨A, rfl, rfl⟩
theorem asg_sub {o i : Expr} {pos : Pos} {env : PySem.Env} {v : Value} (h : notSlice i = true) : assign (.Subscript o i pos) env v = (do let ov ← holding [v] (eval o env); let iv ← holding [v, ov] (eval i env); standAt pos; holding [v, ov, iv] (setItem ov iv v); release [v, ov, iv] []) := by
  rw [assign]
  cases i <;> first | rfl | cases h
/-- all four at once -/
theorem tr_ok : ∀ n : Nat, (∀ (X : Cx) (C : Ctx) e A, Good X C k → trE n C e = some A → SndE X e A) ∧ (∀ (X : Cx) (C : Ctx) e A, Good X C k → trT n C e = some A → SndT X e A) ∧ (∀ (X : Cx) (C : Ctx) tg e A, Good X C k → trI n C e = some A → SndI X tg e A) ∧ (∀ (X : Cx) (C : Ctx) e A js, Good X C k → trG n C e = some (A, js) → SndG X e A js)
  | 0 => by
    refine ⟨fun X C e A g h => ?_, fun X C e A g h => ?_, fun X C tg e A g h => ?_, fun X C e A js g h => ?_⟩
    · exact absurd (show none = some _ from h) (by simp)
    · exact absurd (show none = some _ from h) (by simp)
    · exact absurd (show none = some _ from h) (by simp)
    · exact absurd (show none = some _ from h) (by simp)
  | n + 1 => by
    obtain ⟨iE, iT, iI, iG⟩ := tr_ok n
    refine ⟨fun X C e A g h => ?_, fun X C e A g h => ?_, fun X C tg e A g h => ?_, fun X C e A js g h => ?_⟩
    · have hf : ∀ e A, trE n C e = some A → SndE X e A := fun e A => iE X C e A g
      have h : trE1 (trE n) (trT n) (trI n) (trG n) C e = some _ := h
      unfold trE1 at h
      split at h
      · unfold trName at h
        split at h
        · rename_i hi
          split at h
          · rename_i hv
            rw [Bool.and_eq_true, Bool.and_eq_true, Bool.not_eq_true', Bool.not_eq_true'] at hv
            split at h
            · cases h
              exact snd_frz (by rw [g.x.hN]; exact ixOf_get hi) (g.vis hv.1.1) hv.1.2 hv.2
            · cases h
              exact snd_var (by rw [g.x.hN]; exact ixOf_get hi) (g.vis hv.1.1) hv.1.2 hv.2
          · cases h
        · cases h
      · unfold trConst at h
        split at h
        · cases h; exact snd_int
        · cases h; exact snd_bl
        · cases h; exact snd_str
        · cases h; exact snd_non
        · cases h
      · split at h
        · rename_i A B q h1 h2 h3
          cases h
          exact snd_bin (opSem_ok h3) (hf _ _ h1) (hf _ _ h2)
        · cases h
      · split at h
        · obtain ⟨A, h1, rfl⟩ := mapS h
          exact snd_un su_neg (hf _ _ h1)
        · obtain ⟨A, h1, rfl⟩ := mapS h
          exact snd_notV (hf _ _ h1)
        · cases h
      · split at h
        · exact trBools_and hf h
        · exact trBools_or hf h
      · exact (trCmp_ok g hf h).1
      · split at h
        · rename_i T A B h1 h2 h3
          cases h
          exact snd_ite (iT X C _ _ g h1) (hf _ _ h2) (hf _ _ h3)
        · cases h
      · obtain ⟨A, h1, rfl⟩ := mapS h
        exact snd_tup (trAs_ok hf h1)
      · obtain ⟨A, h1, rfl⟩ := mapS h
        exact snd_lst (trAs_ok hf h1)
      · split at h
        · cases h
          exact snd_dct0
        · cases h
      · exact trSub_ok (by have := g.x.room.un; omega) hf h
      · split at h
        · split at h
          · exact trCallN_ok g hf h
          · exact trMeth_ok g hf h
          · cases h
        · cases h
      · split at h
        · rename_i tg it ifs hg
          cases isOneGen_eq hg
          obtain ⟨own, I, G, js, T, A, rfl, h1, h2, h3, h4, h5, h6, h7⟩ := trLc_ok g iE iT iI iG h
          exact snd_lc g.x.calm (by rw [g.x.hN]; exact g.x.nd) h1 (foldSet h2) h3 h4 h5 h6 h7
        · cases h
      · cases h
    · have hf : ∀ e A, trE n C e = some A → SndE X e A := fun e A => iE X C e A g
      have ht : ∀ e A, trT n C e = some A → SndT X e A := fun e A => iT X C e A g
      have h : trT1 (trE n) (trT n) C e = some _ := h
      unfold trT1 at h
      split at h
      · split at h
        · obtain ⟨A, h1, rfl⟩ := mapS h
          exact tst_not (ht _ _ h1)
        · cases h
      · split at h
        · exact (trTests_and ht h).t
        · exact (trTests_or ht h).t
      · obtain ⟨A, h1, rfl⟩ := mapS h
        exact (trCmp_ok g hf h1).2
      · obtain ⟨A, h1, rfl⟩ := mapS h
        exact tst_val (by intro _; rfl) (hf _ _ h1)
      · obtain ⟨A, h1, rfl⟩ := mapS h
        exact tst_val (by intro _; rfl) (hf _ _ h1)
      · obtain ⟨A, h1, rfl⟩ := mapS h
        exact tst_val (by intro _; rfl) (hf _ _ h1)
      · cases h
    · have hf : ∀ e A, trE n C e = some A → SndE X e A := fun e A => iE X C e A g
      have h : trI1 (trE n) C e = some _ := h
      unfold trI1 at h
      split at h
      · rename_i a hr
        split at h
        · rename_i hs
          obtain ⟨A, h1, rfl⟩ := mapS h
          obtain ⟨p, p2, rfl, hb⟩ := isRng_eq hr
          obtain ⟨g1, g2⟩ := g.bi hb
          exact si_rng1 g1 g2 (hf _ _ h1) (starEach_cons hs)
        · cases h
      · rename_i a b hr
        split at h
        · rename_i hs
          rw [Bool.and_eq_true] at hs
          split at h
          · rename_i A B h1 h2
            cases h
            obtain ⟨p, p2, rfl, hb⟩ := isRng_eq hr
            obtain ⟨g1, g2⟩ := g.bi hb
            exact si_rng2 g1 g2 (hf _ _ h1) (hf _ _ h2) (by rw [starEach_cons hs.1, starEach_cons hs.2]; rfl) (by rw [starEach_cons hs.2]; rfl)
          · cases h
        · cases h
      · cases h
      · split at h
        · rename_i a ha
          split at h
          · rename_i hs
            obtain ⟨A, h1, rfl⟩ := mapS h
            obtain ⟨p, p2, rfl, hb⟩ := isRev_eq ha
            obtain ⟨g1, g2⟩ := g.bi hb
            exact si_rev g1 g2 (starEach_cons hs) (hf _ _ h1)
          · cases h
        · obtain ⟨A, h1, rfl⟩ := mapS h
          exact si_seq (hf _ _ h1)
    · have hf : ∀ e A, trE n C e = some A → SndE X e A := fun e A => iE X C e A g
      have h : trG1 (trE n) (trG n) C e = some _ := h
      unfold trG1 at h
      split at h
      · split at h
        · rename_i hi
          split at h
          · rename_i hl
            cases h
            obtain ⟨l1, l2⟩ := g.loc hl
            exact sg_name (by rw [g.x.hN]; exact g.x.nd) (by rw [g.x.hN]; exact ixOf_get hi) l1 l2
          · cases h
        · cases h
      · split at h
        · rename_i Gs js' ht
          cases h
          obtain ⟨k1, k2, k3⟩ := trTuple_ok (fun e A js => iG X C e A js g) ht
          exact sg_tup g.x.calm k1 k2 k3 rfl
        · cases h
      · split at h
        · rename_i hs
          split at h
          · rename_i O I h1 h2
            cases h
            exact sg_sub (by have := g.x.room.un; omega) (fun v => asg_sub hs) (hf _ _ h1) (hf _ _ h2)
          · cases h
        · cases h
      · cases h
theorem noSwap {e : Expr} {t : Option Expr} {l : Nat} {env : PySem.Env} (h : notComp e = true) : swapsWith e t l env = pure false := by
  cases e <;> first | rfl | cases h
theorem okAsg_ok {tgs : List Expr} {e : Expr} {env : PySem.Env} (h : okAsg tgs e = true) : ∃ tg, tgs = [tg] ∧ notStar tg = true ∧ (∀ l, swapsWithSole [tg] e l env = pure false) ∧ swappedStores [tg] e env = pure none := by
  unfold okAsg at h
  split at h
  · exact ⟨_, rfl, rfl, (fun l => by unfold swapsWithSole; exact noSwap h), by cases e <;> rfl⟩
  · rw [Bool.and_eq_true] at h
    refine ⟨_, rfl, rfl, (fun l => by unfold swapsWithSole; exact noSwap h.1), ?_⟩
    have h2 := h.2
    cases e <;> first | rfl | cases h2
  · exact ⟨_, rfl, rfl, (fun l => by unfold swapsWithSole; exact noSwap h), by cases e <;> rfl⟩
  · cases h
theorem isLcAsg_eq {pos : Pos} {tgs : List Expr} {e : Expr} {y : Str} {elt tg it : Expr} {ifs : List Expr} {scope : Scope} {p : Pos} (h : isLcAsg C pos tgs e = some (y, elt, tg, it, ifs, scope, p)) :
    ∃ py, tgs = [.Name y py] ∧ e = .ListComp elt [⟨tg, it, ifs, 0⟩] scope p ∧ (py.line == p.line) = true ∧ (scope.names.any fun (n, k) => n == y && (k == .local || k == .cell)) = false := by
  unfold isLcAsg at h
  split at h
  · split at h
    · rename_i hg
      split at h
      · rename_i q
        cases h
        rw [Bool.and_eq_true, Bool.not_eq_true'] at q
        rw [isOneGen_eq hg]
        exact ⟨_, rfl, rfl, q.1, q.2⟩
      · cases h
    · cases h
  · cases h
theorem trS_ok : ∀ n : Nat, (∀ (X : Cx) (C : Ctx) s A, Good X C k → trS n C s = some A → SndS X s A) ∧ (∀ (X : Cx) (C : Ctx) s A, Good X C k → trSs n C s = some A → SndSs X s A)
  | 0 => by
    refine ⟨fun X C e A g h => ?_, fun X C e A g h => ?_⟩
    · exact absurd (show none = some _ from h) (by simp)
    · exact absurd (show none = some _ from h) (by simp)
  | n + 1 => by
    obtain ⟨iE, iT, iI, iG⟩ := tr_ok (k := k) n
    obtain ⟨iS, iSs⟩ := trS_ok n
    refine ⟨fun X C s A g h => ?_, fun X C ss A g h => ?_⟩
    · have h : trS1 (trE n) (trT n) (trI n) (trG n) (trSs n) C s = some _ := h
      unfold trS1 at h
      split at h
      · split at h
        · cases h; exact ss_retN
        · obtain ⟨A, h1, rfl⟩ := mapS h
          exact ss_ret (iE X C _ _ g h1)
      · split at h
        · cases h; exact ss_doc
        · obtain ⟨A, h1, rfl⟩ := mapS h
          exact ss_expr (iE X C _ _ g h1) rfl
        · cases h
      · rename_i tgs e pos
        split at h
        · rename_i y elt tg it ifs scope p hl
          obtain ⟨py, rfl, rfl, q1, q2⟩ := isLcAsg_eq hl
          split at h
          · rename_i A i h1 hi
            split at h
            · rename_i hloc
              cases h
              have hyl : X.env.scope.names.lookup y = some .local := by
                rw [g.x.hsc]
                unfold isLocal at hloc
                split at hloc
                · assumption
                · cases hloc
              obtain ⟨own, I, G, js, T, A, rfl, h1, h2, h3, h4, h5, h6, h7⟩ := trLc_ok g iE iT iI iG h1
              refine ss_setLc g.x.calm (by rw [g.x.hN]; exact g.x.nd) (by rw [g.x.hN]; exact ixOf_get hi) hyl ?_ h1 (foldSet h2) h3 h4 h5 h6 h7
              exact sw_true g.kd hyl q1 q2
            · rename_i hnl
              split at h
              · rename_i hloc
                cases h
                have hyc : X.env.kindOf y = some .cell := by
                  show X.env.scope.names.lookup y = _
                  rw [g.x.hsc]
                  unfold Ctx.loc at hloc
                  unfold isLocal at hnl
                  split at hloc
                  · rename_i e
                    rw [e] at hnl
                    exact absurd rfl hnl
                  · assumption
                  · cases hloc
                obtain ⟨own, I, G, js, T, A, rfl, h1, h2, h3, h4, h5, h6, h7⟩ := trLc_ok g iE iT iI iG h1
                obtain ⟨l1, l2⟩ := g.loc hloc
                refine ss_asg (by rw [assignEach_cons rfl]; rfl) ?_ rfl (snd_lc g.x.calm (by rw [g.x.hN]; exact g.x.nd) h1 (foldSet h2) h3 h4 h5 h6 h7) (sg_name (by rw [g.x.hN]; exact g.x.nd) (by rw [g.x.hN]; exact ixOf_get hi) l1 l2)
                unfold swapsWithSole swapsWith
                show pure (X.env.blockKind == .function && X.env.kindOf y == some .local && _ && _) = pure false
                rw [hyc]
                show pure ((X.env.blockKind == .function && false) && _ && _) = pure false
                rw [Bool.and_false, Bool.false_and, Bool.false_and]
              · cases h
          · cases h
        · split at h
          · rename_i ho
            split at h
            · rename_i A G js h1 h2
              cases h
              obtain ⟨tg, rfl, o1, o2, o3⟩ := okAsg_ok (env := X.env) ho
              exact ss_asg (by rw [assignEach_cons o1]; rfl) (o2 _) o3 (iE X C _ _ g h1) (iG X C _ _ _ g h2)
            · cases h
          · cases h
      · split at h
        · rename_i T A B h1 h2 h3
          cases h
          exact ss_if (iT X C _ _ g h1) (iSs X C _ _ g h2) (iSs X C _ _ g h3)
        · cases h
      · split at h
        · split at h
          · rename_i hs
            split at h
            · rename_i I G js A h1 h2 h3
              cases h
              exact ss_for g.x.xe g.x.calm (iI X C _ _ _ g h1) (iG X C _ _ _ g h2) (iSs X C _ _ g h3) (foldSet hs)
            · cases h
          · cases h
        · cases h
      · split at h
        · split at h
          · rename_i T A h1 h2
            cases h
            exact ss_while g.x.xe (iT X C _ _ g h1) (iSs X C _ _ g h2)
          · cases h
        · cases h
      · cases h; exact ss_pass
      · cases h; exact ss_break
      · cases h; exact ss_cont
      · cases h
    · have h : trSs1 (trS n) (trSs n) C ss = some _ := h
      unfold trSs1 at h
      split at h
      · cases h; exact sss_nil
      · exact sss_one (iS X C _ _ g h)
      · split at h
        · rename_i A B h1 h2
          cases h
          exact sss_cons (iS X C _ _ g h1) (iSs X C _ _ g h2)
        · cases h
end
end DL

/-! DL7: defs of a text by their translation; the law's end. -/
namespace DL
open PySem PySem.Spec PyProof.Rows L2

section
variable (P : Program) (w : World) (K : PySem.W.Frag) (mg : Str → Option Value) (base : Heap)
/-- a def stands and keeps its promise -/
def Ent (k : Nat) (x : Str) (np : Nat) (S : FSem) : Prop := ∃ f fd ps, FnOk P w K mg base CX0 k f fd ps (spOf K np S) ∧ mg x = some (.ref f) ∧ PySem.W.keepIn K (.ref f) = true ∧ Binds K fd ps []
def GAll (k : Nat) (G : List (Str × Nat × FSem)) : Prop := ∀ x np S, G.lookup x = some (np, S) → Ent P w K mg base k x np S
end
section
variable {P : Program} {w : World} {K : PySem.W.Frag} {mg : Str → Option Value} {base : Heap}
theorem Ent.mono {j k : Nat} {x : Str} {np : Nat} {S : FSem} (h : Ent P w K mg base j x np S) (q : j ≤ k) : Ent P w K mg base k x np S := by
  obtain ⟨f, fd, ps, h1, h2⟩ := h
  exact ⟨f, fd, ps, h1.mono q, h2⟩
theorem GAll.nil {k : Nat} : GAll P w K mg base k [] := fun _ _ _ h => by cases h
theorem GAll.cons {k : Nat} {x : Str} {np : Nat} {S : FSem} {G : List (Str × Nat × FSem)} (h : Ent P w K mg base k x np S) (t : GAll P w K mg base k G) : GAll P w K mg base k ((x, np, S) :: G) := fun y m T q => by
  rw [List.lookup_cons] at q
  split at q
  · rename_i e
    cases q
    have e := eq_of_beq e
    subst e
    exact h
  · exact t y m T q
theorem GAll.mono {j k : Nat} {G : List (Str × Nat × FSem)} (h : GAll P w K mg base j G) (q : j ≤ k) : GAll P w K mg base k G := fun x np S z => (h x np S z).mono q
/-- a def, by its translation -/
theorem fn_tr {x qual : Str} {st : Stmt} {f : Addr} {fd : FuncData} {N ps : List Str} {k n : Nat} {D : DS} {G : List (Str × Nat × FSem)} {bs : List Str} {mu : List (Nat × Nat × Nat)} (F : Fun K x qual st f fd) (S : FnScope N ps (defScope st))
    (hG : GAll P w K mg base k G) (hb : ∀ n, bs.contains n = true → mg n = none) (ht : trSs n ⟨N, defScope st, fun _ => true, G, bs, mu⟩ (defBody st) = some D) :
    FnOk P w K mg base CX0 (k + 1) f fd ps (spOf K ps.length (runF N.length ps.length D)) := by
  refine fn_sound F S fun X h1 h2 h3 h4 h5 hx => ?_
  subst h1 h2 h3 h4 h5
  refine (trS_ok (k := k) n).2 X ⟨N, defScope st, fun _ => true, G, bs, mu⟩ _ D ⟨hx, hG, hb, ?_⟩ ht
  rw [hx.hsc]
  exact S.kind
/-- what is never asked -/
def noSem : FSem := fun _ _ => none
theorem fn_no {f : Addr} {fd : FuncData} {ps : List Str} : FnOk P w K mg base CX0 0 f fd ps (spOf K ps.length noSem) :=
  ⟨fun vs H Q E h => h.1, fun A outer s H args us vs Q E hr he hb hv h => by obtain ⟨_, F, ρ, st, ar, v, st', _, _, z, _⟩ := h; cases z⟩
/-- the empty store -/
def st0 : Sto := ⟨0, fun _ => none, fun _ _ => rfl, fun _ _ h => by cases h⟩
def spLaw (K : PySem.W.Frag) : Sp := fun vs H Q _ => ∃ (a : Addr) (ns : List Int), vs = [.ref a] ∧ SqL K H a (ns.map V.int) ∧ ns.length ≤ 63 ∧ ∀ H', Q (.bl true) H'
theorem law_end {k : Nat} {f : Addr} {fd : FuncData} {ps : List Str} {S : FSem} (h : FnOk P w K mg base CX0 k f fd ps (spOf K 1 S)) (hl : ∀ ns : List Int, ns.length ≤ 63 → ∃ st, S [.ro (ns.map .int)] st0 = some (.bl true, st)) :
    FnOk P w K mg base CX0 k f fd ps (spLaw K) := by
  refine h.imp fun vs H Q E hs => ?_
  obtain ⟨a, ns, rfl, hS, hlen, q⟩ := hs
  obtain ⟨st, hst⟩ := hl ns hlen
  refine ⟨rfl, H, fun _ => 0, st0, [.ro (ns.map .int)], .bl true, st, ⟨fun _ _ z => z, fun l c z => (by cases z), fun l l' c c' z => (by cases z)⟩, .cons ?_ .nil, hst, fun F' ρ' w' H' p r => ?_⟩
  · rw [RelP]
    exact ⟨a, ns.map V.int, rfl, hS, RelPs.ints ns⟩
  · rw [RelP] at r
    rw [r]
    exact q H'
end
theorem walk {l : PySem.W.OpenLaw} {q : Program} {loose : List Str} {XP : (Str → Option Value) → Heap → Prop} {YP : World → Heap → Prop} {d : DefRec} {K : Params → PySem.W.Frag} {k : Nat} (hk : k ≤ 40) (hn : l.most = some 63) (hdf : d.params.defaults = [])
    (hY : ∀ (w : World) (h : Heap), YP w h → (K w.params).In h)
    (F : ∀ (w : World) (mg : Str → Option Value) (fa : Addr) (h : Heap), (K w.params).In h → h.Ns mainGlobals mg → mg d.name = some (.ref fa) →
      ∃ fd : FuncData, (∀ (s : Shared) (u : Value), BindsTo s fd ⟨[u], []⟩ [("script", u)]) ∧ ∀ base : Heap, (K w.params).In base → base.Ns mainGlobals mg → FnOk l.prog w (K w.params) mg base CX0 k fa fd ["script"] (spLaw (K w.params))) :
    PySem.W.WalkO q loose XP YP l.row.toRowW d [] (fun f vs => PySem.call f vs) :=
  L2.walk_of (n := 63) (k := k) (x := "script") (CX := fun _ => CX0) (sp := fun w => spLaw (K w.params)) hn (by decide) hdf (Room.mono (k := 40) ⟨rfl, by decide, by decide⟩ hk) hY F (fun _ _ a ns hl _ hS => ⟨a, ns, rfl, hS, hl, fun _ => rfl⟩) fun _ _ _ _ _ z => z
end DL

/-! DL8: how what a piece computes is shown. -/
namespace DL
open PySem L2

def wp {α : Type} (m : Option (α × Sto)) (Q : α → Sto → Prop) : Prop := ∃ a s, m = some (a, s) ∧ Q a s
section
variable {α β : Type} {m : Option (α × Sto)} {Q : α → Sto → Prop} {st : Sto} {env : Env}
theorem wp_ret {a : α} (q : Q a st) : wp (some (a, st)) Q := ⟨a, st, rfl, q⟩
theorem wp_eq {a : α} {s : Sto} (h : m = some (a, s)) (q : Q a s) : wp m Q := ⟨a, s, h, q⟩
theorem eq_of_wp {a : α} (h : wp m fun b s => b = a ∧ s = st) : m = some (a, st) := by
  obtain ⟨b, s, e, rfl, rfl⟩ := h
  exact e
theorem wp_mono {R : α → Sto → Prop} (h : wp m R) (k : ∀ a s, R a s → Q a s) : wp m Q := by
  obtain ⟨a, s, e, r⟩ := h
  exact ⟨a, s, e, k a s r⟩
theorem wp_mb {f : β → Sto → Option (α × Sto)} {n : Option (β × Sto)} (h : wp n fun b s => wp (f b s) Q) : wp (mb n f) Q := by
  obtain ⟨b, s, rfl, h⟩ := h
  exact h
end
theorem wp_pos {α : Type} {c : Prop} [Decidable c] {A B : Option (α × Sto)} {Q : α → Sto → Prop} (h : c) (q : wp A Q) : wp (if c then A else B) Q := by rw [if_pos h]; exact q
theorem wp_neg {α : Type} {c : Prop} [Decidable c] {A B : Option (α × Sto)} {Q : α → Sto → Prop} (h : ¬ c) (q : wp B Q) : wp (if c then A else B) Q := by rw [if_neg h]; exact q
theorem wp_if {α : Type} {c : Prop} [Decidable c] {A B : Option (α × Sto)} {Q : α → Sto → Prop} (h : c → wp A Q) (q : ¬ c → wp B Q) : wp (if c then A else B) Q := by
  by_cases e : c
  · rw [if_pos e]; exact h e
  · rw [if_neg e]; exact q e
theorem wp_mul {a b : Int} {st : Sto} {Q : PV → Sto → Prop} (h : okMul a b = true) (q : Q (.int (a * b)) st) : wp (opMul (.int a) (.int b) st) Q := by
  show wp (if okMul a b then some (PV.int (a * b), st) else none) Q
  exact wp_pos h (wp_ret q)
theorem wp_mod {a b : Int} {st : Sto} {Q : PV → Sto → Prop} (h : okMod b = true) (q : Q (.int (a % b)) st) : wp (opMod (.int a) (.int b) st) Q := by
  show wp (if okMod b then some (PV.int (a % b), st) else none) Q
  exact wp_pos h (wp_ret q)
theorem wp_div {a b : Int} {st : Sto} {Q : PV → Sto → Prop} (h : okDiv b = true) (q : Q (.int (a / b)) st) : wp (opDiv (.int a) (.int b) st) Q := by
  show wp (if okDiv b then some (PV.int (a / b), st) else none) Q
  exact wp_pos h (wp_ret q)
theorem wp_pow {a b : Int} {st : Sto} {Q : PV → Sto → Prop} (h : okPow a b = true) (q : Q (.int (a ^ b.toNat)) st) : wp (opPow (.int a) (.int b) st) Q := by
  show wp (if okPow a b then some (PV.int (a ^ b.toNat), st) else none) Q
  exact wp_pos h (wp_ret q)
/-- what is at a place -/
theorem loc_seq {p : Nat} {st : Sto} {xs : List PV} (h : st.cs p = some (.lst xs)) : seqOf st (.loc p) = some xs := by
  show (match st.cs p with | some (.lst xs) => some xs | _ => none) = _
  rw [h]
theorem loc_dct {p : Nat} {st : Sto} {xs : List PV} (h : st.cs p = some (.lst xs)) : dctOf st (.loc p) = none := by
  show (match st.cs p with | some (.dct ks vs) => some (ks, vs) | _ => none) = none
  rw [h]
theorem dct_of {p : Nat} {st : Sto} {ks vs : List PV} (h : st.cs p = some (.dct ks vs)) : dctOf st (.loc p) = some (ks, vs) := by
  show (match st.cs p with | some (.dct ks vs) => some (ks, vs) | _ => none) = _
  rw [h]
theorem len_loc {l : Nat} {st : Sto} : bLen [.loc l] st = (match seqOf st (.loc l) with | some xs => some (.int xs.length, st) | none => match dctOf st (.loc l) with | some (ks, _) => some (.int ks.length, st) | none => none) := rfl
theorem loc_len {p : Nat} {st : Sto} {xs : List PV} (h : st.cs p = some (.lst xs)) : bLen [.loc p] st = some (.int xs.length, st) := by
  rw [len_loc, loc_seq h]
theorem loc_ix {p : Nat} {st : Sto} {xs : List PV} {i : Int} {v : PV} (h : st.cs p = some (.lst xs)) (hi : atI xs i = some v) : opIx (.loc p) (.int i) st = some (v, st) := by
  unfold opIx
  rw [loc_dct h]
  show (match seqOf st (.loc p) with | some xs => (atI xs i).map fun v => (v, st) | none => none) = _
  rw [loc_seq h]
  show (atI xs i).map (fun v => (v, st)) = _
  rw [hi]; rfl
theorem seq_len {v : PV} {st : Sto} {xs : List PV} (h : seqOf st v = some xs) : bLen [v] st = some (.int xs.length, st) := by
  cases v with
  | loc l =>
    rw [len_loc, h]
  | tup ys => cases h; rfl
  | lst ys => cases h; rfl
  | ro ys => cases h; rfl
  | _ => cases h
theorem seq_ix {v : PV} {st : Sto} {xs : List PV} {i : Int} {x : PV} (h : seqOf st v = some xs) (hi : atI xs i = some x) : opIx v (.int i) st = some (x, st) := by
  have e1 : dctOf st v = none := by
    cases v with
    | loc l =>
      have h : (match st.cs l with | some (.lst xs) => some xs | _ => none) = some xs := h
      show (match st.cs l with | some (.dct ks vs) => some (ks, vs) | _ => none) = none
      split at h
      · rename_i hl; rw [hl]
      · cases h
    | dct _ _ => cases h
    | _ => rfl
  unfold opIx
  rw [e1]
  show (match seqOf st v with | some xs => (atI xs i).map fun v => (v, st) | none => none) = _
  rw [h]
  show (atI xs i).map (fun v => (v, st)) = _
  rw [hi]; rfl
theorem loc_asL {p : Nat} {st : Sto} {xs : List PV} (h : st.cs p = some (.lst xs)) : asL (.loc p) st = some (p, st) := by
  show (match st.cs p with | some (.lst _) => some (p, st) | _ => none) = _
  rw [h]
theorem loc_pop {p : Nat} {st : Sto} {xs : List PV} {v : PV} (h : st.cs p = some (.lst xs)) (hv : xs[xs.length - 1]? = some v) : mPop p [] st = some (v, st.set p (.lst xs.dropLast)) := by
  show (match st.cs p with | some (.lst xs) => (match xs[xs.length - 1]? with | some y => some (y, st.set p (.lst xs.dropLast)) | none => none) | _ => none) = _
  rw [h]
  show (match xs[xs.length - 1]? with | some y => some (y, st.set p (.lst xs.dropLast)) | none => none) = _
  rw [hv]
theorem loc_append {p : Nat} {st : Sto} {xs : List PV} {v : PV} (h : st.cs p = some (.lst xs)) (hz : xs.length < sizeLine) (hv : v.lb st.nxt = true) : mAppend p [v] st = some (.non, st.set p (.lst (xs ++ [v]))) := by
  show (match st.cs p with | some (.lst xs) => (if xs.length < sizeLine && v.lb st.nxt then some (PV.non, st.set p (.lst (xs ++ [v]))) else none) | _ => none) = _
  rw [h]
  show (if xs.length < sizeLine && v.lb st.nxt then some (PV.non, st.set p (.lst (xs ++ [v]))) else none) = _
  rw [hv, decide_eq_true hz]; rfl
theorem loc_reverse {p : Nat} {st : Sto} {xs : List PV} (h : st.cs p = some (.lst xs)) : mReverse p [] st = some (.non, st.set p (.lst xs.reverse)) := by
  show (match st.cs p with | some (.lst xs) => some (PV.non, st.set p (.lst xs.reverse)) | _ => none) = _
  rw [h]
theorem loc_set {p : Nat} {st : Sto} {xs : List PV} {i : Int} {j : Nat} {v : PV} (h : st.cs p = some (.lst xs)) (hj : ixN xs.length i = some j) (hv : v.lb st.nxt = true) : setL (.loc p) (.int i) v st = some (st.set p (.lst (xs.set j v))) := by
  rw [show setL (.loc p) (.int i) v st = (match st.cs p with | some (.lst xs) => (match ixN xs.length i with | some j => (if v.lb st.nxt then some (st.set p (.lst (xs.set j v))) else none) | none => none) | some (.dct ks vs) => (if goodK ks (.int i) && v.lb st.nxt && decide (ks.length < sizeLine) then some (st.set p (.dct (dput ks vs (.int i) v).1 (dput ks vs (.int i) v).2)) else none) | none => none) from rfl, h]
  show (match ixN xs.length i with | some j => (if v.lb st.nxt then some (st.set p (.lst (xs.set j v))) else none) | none => none) = _
  rw [hj]
  show (if v.lb st.nxt then some (st.set p (.lst (xs.set j v))) else none) = _
  rw [hv, if_pos rfl]
/-! dicts at a place -/
section
variable {p : Nat} {st : Sto} {ks vs : List PV} {k v : PV}
theorem dct_ix (h : st.cs p = some (.dct ks vs)) (hg : goodK ks k = true) (hv : dlook ks vs k = some v) : opIx (.loc p) k st = some (v, st) := by
  unfold opIx
  rw [dct_of h]
  show (if goodK ks k then (dlook ks vs k).map fun v => (v, st) else none) = _
  rw [if_pos hg, hv]; rfl
theorem dct_set (h : st.cs p = some (.dct ks vs)) (hg : goodK ks k = true) (hv : v.lb st.nxt = true) (hz : ks.length < sizeLine) : setL (.loc p) k v st = some (st.set p (.dct (dput ks vs k v).1 (dput ks vs k v).2)) := by
  unfold setL
  dsimp only
  rw [h]
  show (if goodK ks k && v.lb st.nxt && decide (ks.length < sizeLine) then some (st.set p (.dct (dput ks vs k v).1 (dput ks vs k v).2)) else none) = _
  rw [hg, hv, decide_eq_true hz]; rfl
theorem dct_in {neg : Bool} (h : st.cs p = some (.dct ks vs)) (hg : goodK ks k = true) : cmpIn neg k (.loc p) st = some (.bl ((dlook ks vs k).isSome != neg), st) := by
  unfold cmpIn
  rw [dct_of h]
  show (if goodK ks k then some (PV.bl ((dlook ks vs k).isSome != neg), st) else none) = _
  rw [if_pos hg]
theorem dct_get {o e f : DE} {env : Env} {s0 s1 s2 : Sto} {z : PV} (h0 : o env s0 = some (.loc p, s1)) (h1 : s1.cs p = some (.dct ks vs)) (h2 : e env s1 = some (k, s2)) (h3 : f env s2 = some (z, st)) (h : st.cs p = some (.dct ks vs)) (hg : goodK ks k = true) : dGet2 o e f env s0 = some ((dlook ks vs k).getD z, st) := by
  unfold dGet2
  rw [h0, mb_some, dct_of h1]
  show mb (e env s1) _ = _
  rw [h2, mb_some, h3, mb_some, dct_of h]
  show (if goodK ks k then some ((dlook ks vs k).getD z, st) else none) = _
  rw [if_pos hg]
theorem dct_sorted {m : Bool} (h : st.cs p = some (.dct ks vs)) : bSorted m [.loc p] st = sortGo m ks st := by
  have e : lstOf st (.loc p) = none := by
    show (match st.cs p with | some (.lst xs) => some xs | _ => none) = _
    rw [h]
  show (match lstOf st (.loc p) with | some xs => sortGo m xs st | none => match dctOf st (.loc p) with | some (ks, _) => sortGo m ks st | none => none) = _
  rw [e, dct_of h]
end
/-- a loop -/
theorem forGo_wp {its : Its} {g : DG} {d : DS} (I : Nat → Env → Sto → Prop) (Q : Fl → Sto → Prop)
    (hs : ∀ (k : Nat) x env st, its.items[k]? = some x → I k env st → its.ok st ∧ wp (g x env st) fun e1 s1 => wp (d e1 s1) fun f s2 => match f with
      | .nx e => I (k + 1) e s2
      | .ct e => I (k + 1) e s2
      | .bk e => Q (.nx e) s2
      | .rt v => Q (.rt v) s2) (hd : ∀ env st, I its.items.length env st → its.ok st ∧ Q (.nx env) st) {env : Env} {st : Sto} (h0 : I 0 env st) : wp (forGo its g d its.items env st) Q := by
  have key : ∀ (m k : Nat) (env : Env) (st : Sto), k + m = its.items.length → I k env st → wp (forGo its g d (its.items.drop k) env st) Q := by
    intro m
    induction m with
    | zero =>
      intro k env st e h
      have e : k = its.items.length := by omega
      subst e
      obtain ⟨ok, q⟩ := hd env st h
      rw [List.drop_length, forGo, if_pos ok]
      exact wp_ret q
    | succ m ih =>
      intro k env st e h
      have hk : k < its.items.length := by omega
      obtain ⟨ok, t⟩ := hs k its.items[k] env st (List.getElem?_eq_getElem hk) h
      rw [List.drop_eq_getElem_cons hk, forGo, if_pos ok]
      refine wp_mb (wp_mono t fun e1 s1 t => wp_mb (wp_mono t fun f s2 t => ?_))
      cases f with
      | nx e => exact ih (k + 1) e s2 (by omega) t
      | ct e => exact ih (k + 1) e s2 (by omega) t
      | bk e => exact wp_ret t
      | rt v => exact wp_ret t
  have := key its.items.length 0 env st (by omega) h0
  rw [List.drop_zero] at this
  exact this
/-- a comprehension -/
theorem lcGo_wp {its : Its} {g : DG} {t : DT} {e : DE} {env : Env} (I : Nat → List PV → Sto → Prop) (Q : List PV → Sto → Prop)
    (hs : ∀ (k : Nat) x done st, its.items[k]? = some x → I k done st → its.ok st ∧ wp (g x env st) fun e1 s1 => wp (t e1 s1) fun b s2 => if b then wp (e e1 s2) fun y s3 => I (k + 1) (done ++ [y]) s3 else I (k + 1) done s2)
    (hd : ∀ done st, I its.items.length done st → its.ok st ∧ Q done st) {st : Sto} (h0 : I 0 [] st) : wp (lcGo its g t e env its.items st) Q := by
  have key : ∀ (m k : Nat) (done : List PV) (st : Sto), k + m = its.items.length → I k done st → wp (lcGo its g t e env (its.items.drop k) st) fun ys s => Q (done ++ ys) s := by
    intro m
    induction m with
    | zero =>
      intro k done st e h
      have e : k = its.items.length := by omega
      subst e
      obtain ⟨ok, q⟩ := hd done st h
      rw [List.drop_length, lcGo, if_pos ok]
      exact wp_ret (by rw [List.append_nil]; exact q)
    | succ m ih =>
      intro k done st e h
      have hk : k < its.items.length := by omega
      obtain ⟨ok, t⟩ := hs k its.items[k] done st (List.getElem?_eq_getElem hk) h
      rw [List.drop_eq_getElem_cons hk, lcGo, if_pos ok]
      refine wp_mb (wp_mono t fun e1 s1 t => wp_mb (wp_mono t fun b s2 t => ?_))
      cases b with
      | false =>
        rw [if_neg (by decide)] at t ⊢
        exact ih (k + 1) done s2 (by omega) t
      | true =>
        rw [if_pos rfl] at t ⊢
        refine wp_mb (wp_mono t fun y s3 t => wp_mb (wp_mono (ih (k + 1) _ s3 (by omega) t) fun ys s4 q => wp_ret ?_))
        rw [List.append_assoc] at q
        exact q
  have := key its.items.length 0 [] st (by omega) h0
  rw [List.drop_zero] at this
  exact wp_mono this fun ys s q => q
/-- a comprehension that changes nothing and has no test -/
theorem lcGo_map {its : Its} {g : DG} {e : DE} {env : Env} {st : Sto} (f : PV → PV) (ok : its.ok st) (h : ∀ x ∈ its.items, ∃ e1, g x env st = some (e1, st) ∧ e e1 st = some (f x, st)) : lcGo its g tYes e env its.items st = some (its.items.map f, st) := by
  have key : ∀ xs : List PV, (∀ x ∈ xs, x ∈ its.items) → lcGo its g tYes e env xs st = some (xs.map f, st) := by
    intro xs
    induction xs with
    | nil => intro _; rw [lcGo, if_pos ok]; rfl
    | cons x r ih =>
      intro hx
      obtain ⟨e1, h1, h2⟩ := h x (hx x List.mem_cons_self)
      rw [lcGo, if_pos ok, h1, mb_some]
      show mb (some (true, st)) _ = _
      rw [mb_some, if_pos rfl, h2, mb_some, ih fun y hy => hx y (List.mem_cons_of_mem _ hy), mb_some]
      rfl
  exact key its.items fun _ z => z
/-- .. with a test -/
theorem lcGo_filter {its : Its} {g : DG} {t : DT} {e : DE} {env : Env} {st : Sto} (p : PV → Bool) (f : PV → PV) (ok : its.ok st) (h : ∀ x ∈ its.items, ∃ e1, g x env st = some (e1, st) ∧ t e1 st = some (p x, st) ∧ (p x = true → e e1 st = some (f x, st))) : lcGo its g t e env its.items st = some ((its.items.filter p).map f, st) := by
  have key : ∀ xs : List PV, (∀ x ∈ xs, x ∈ its.items) → lcGo its g t e env xs st = some ((xs.filter p).map f, st) := by
    intro xs
    induction xs with
    | nil => intro _; rw [lcGo, if_pos ok]; rfl
    | cons x r ih =>
      intro hx
      obtain ⟨e1, h1, h2, h3⟩ := h x (hx x List.mem_cons_self)
      rw [lcGo, if_pos ok, h1, mb_some, h2, mb_some, List.filter_cons]
      cases hp : p x with
      | true =>
        rw [if_pos rfl, if_pos rfl, h3 hp, mb_some, ih fun y hy => hx y (List.mem_cons_of_mem _ hy), mb_some]
        rfl
      | false =>
        rw [if_neg (by decide), if_neg (by decide)]
        exact ih fun y hy => hx y (List.mem_cons_of_mem _ hy)
  exact key its.items fun _ z => z
theorem Its.ok_none {xs : List PV} {st : Sto} : (Its.mk xs none).ok st := trivial
theorem Its.ok_some {xs : List PV} {st : Sto} {l : Nat} {c : Cell} (h : st.cs l = some c) : (Its.mk xs (some (l, c))).ok st := h

/-- .. over a range, item by item -/
theorem lc_rng {n : Nat} {g : DG} {e : DE} {env : Env} {st : Sto} (vs : List PV) (hn : vs.length = n) (h : ∀ (k : Nat), k < n → ∃ e1 v, g (.int ((0 : Int) + (k : Int))) env st = some (e1, st) ∧ vs[k]? = some v ∧ e e1 st = some (v, st)) : lcGo ⟨rng 0 (n : Int), none⟩ g tYes e env (rng 0 (n : Int)) st = some (vs, st) := by
  have e0 : rng 0 (n : Int) = (List.range n).map fun (k : Nat) => PV.int ((0 : Int) + (k : Int)) := by
    unfold rng
    rw [Int.sub_zero, Int.toNat_natCast]
  let f : PV → PV := fun x => match x with
    | .int i => (vs[i.toNat]?).getD .non
    | _ => .non
  have := lcGo_map (its := ⟨rng 0 (n : Int), none⟩) (g := g) (e := e) (env := env) (st := st) f trivial (fun x hx => by
    have hx : x ∈ rng 0 (n : Int) := hx
    rw [e0, List.mem_map] at hx
    obtain ⟨k, hk, rfl⟩ := hx
    obtain ⟨e1, v, h1, h2, h3⟩ := h k (List.mem_range.mp hk)
    refine ⟨e1, h1, ?_⟩
    rw [h3]
    show some (v, st) = some ((vs[((0 : Int) + (k : Int)).toNat]?).getD .non, st)
    rw [Int.zero_add, Int.toNat_natCast, h2]
    rfl)
  have e1 : (rng 0 (n : Int)).map f = vs := by
    rw [e0, List.map_map]
    apply List.ext_getElem?
    intro k
    rw [List.getElem?_map]
    by_cases hk : k < n
    · rw [List.getElem?_range hk]
      show some ((vs[((0 : Int) + (k : Int)).toNat]?).getD .non) = _
      rw [Int.zero_add, Int.toNat_natCast, List.getElem?_eq_getElem (by omega)]
      rfl
    · rw [List.getElem?_eq_none (by rw [List.length_range]; omega), List.getElem?_eq_none (by omega)]
      rfl
  rw [e1] at this
  exact this
/-- .. over items -/
theorem lc_items {its : Its} {g : DG} {e : DE} {env : Env} {st : Sto} (vs : List PV) (ok : its.ok st) (hn : vs.length = its.items.length) (h : ∀ (k : Nat) x, its.items[k]? = some x → ∃ e1 v, g x env st = some (e1, st) ∧ vs[k]? = some v ∧ e e1 st = some (v, st)) : lcGo its g tYes e env its.items st = some (vs, st) := by
  obtain ⟨ys, s, h1, h2, h3⟩ := lcGo_wp (its := its) (g := g) (t := tYes) (e := e) (env := env) (fun k done s => s = st ∧ done = vs.take k) (fun ys s => s = st ∧ ys = vs) (fun k x done s hx hI => by
    obtain ⟨rfl, rfl⟩ := hI
    obtain ⟨e1, v, h1, h2, h3⟩ := h k x hx
    refine ⟨ok, wp_eq h1 (wp_eq rfl ?_)⟩
    rw [if_pos rfl]
    exact wp_eq h3 ⟨rfl, by rw [List.take_add_one, h2]; rfl⟩) (fun done s hI => by
    obtain ⟨rfl, rfl⟩ := hI
    exact ⟨ok, rfl, by rw [← hn, List.take_length]⟩) (st := st) ⟨rfl, rfl⟩
  rw [h1, h2, h3]

/-! ### values of one kind -/
def tT (a : List Int) : PV := .tup (a.map .int)
theorem tT_lb {n : Nat} {a : List Int} : (tT a).lb n = true := by
  unfold tT
  rw [PV.lb]
  exact lbs_map (fun i => lb_int n i) a
theorem res_of {b : Nat} {cs : Nat → Option Cell} {v : PV} (h : v.lb b = true) : v.res b cs = some v := PV.res_lb h
/-- a def hands back a value without places -/
theorem fin_val {b : Nat} {v : PV} {st : Sto} (h : v.lb b = true) : fin b v st = some (v, st.restr b) := by
  unfold fin
  split
  · rename_i l
    rw [PV.lb, decide_eq_true_eq] at h
    rw [if_pos h]
  · rw [PV.res_lb h]; rfl
theorem fin_loc {b l : Nat} {st : Sto} {c : Cell} (hb : b ≤ l) (h : st.cs l = some c) (hc : c.lb b = true) : fin b (.loc l) st = some (.loc b, (st.restr b).alloc c) := by
  show (if l < b then some (PV.loc l, st.restr b) else match st.cs l with | some c => (if c.lb b then some (PV.loc b, (st.restr b).alloc c) else none) | none => none) = _
  rw [if_neg (by omega), h]
  show (if c.lb b then some (PV.loc b, (st.restr b).alloc c) else none) = _
  rw [if_pos hc]
theorem settle_val {b : Nat} {v : PV} {st : Sto} (h : v.lb b = true) : settle b v st = some (v, st.restr b) := by
  unfold settle
  rw [PV.res_lb h]; rfl
/-- behind a call: a value without places is kept, the rest dropped -/
theorem wp_set {b : Nat} {v : PV} {s : Sto} {X : Option (PV × Sto)} {Q : PV → Sto → Prop} (hb : b = s.nxt) (h : v.lb b = true) (q : Q v s) : wp (if false = true then X else settle b v s) Q := by
  subst hb
  rw [if_neg (by decide), settle_val h, Sto.restr_self]
  exact wp_ret q
theorem wp_runF {n np : Nat} {d : DS} {args : List PV} {st : Sto} {Q : PV → Sto → Prop} (hl : args.length = np)
    (h : wp (d (args.map some ++ List.replicate (n - args.length) none) st) fun f s => match f with
      | .rt v => wp (fin st.nxt v s) Q
      | .nx _ => wp (fin st.nxt .non s) Q
      | _ => False) : wp (runF n np d args st) Q := by
  obtain ⟨f, s, e, h⟩ := h
  unfold runF
  rw [if_pos hl, e]
  cases f with
  | rt v => exact h
  | nx e => exact h
  | bk e => exact h.elim
  | ct e => exact h.elim
/-- .. and changes nothing -/
theorem runF_eq {n np : Nat} {d : DS} {args : List PV} {st : Sto} {v : PV} (hl : args.length = np) (hv : v.lb st.nxt = true)
    (h : wp (d (args.map some ++ List.replicate (n - args.length) none) st) fun f s => f = .rt v ∧ s = st) : runF n np d args st = some (v, st) := by
  obtain ⟨f, s, e, rfl, rfl⟩ := h
  unfold runF
  rw [if_pos hl, e]
  show fin s.nxt v s = _
  rw [fin_val hv, Sto.restr_self]
end DL

namespace DL
open PySem PySem.Spec PyProof.Rows L2
/-! ### the text by places -/
def top (i : Nat) : Stmt := PySem.Challenge.pw_deltastead_k07_whole_only_and_shortest.main.body.getD i (.Pass ⟨0, 0, 0, 0⟩)

/-! leq : slots 0 a, 1 b, 2 i -/
abbrev s_leq : Stmt := top 1
noncomputable def D_leq : DS :=
    (sSeq (sIf (tVal (dBin (cmpEq true) (dApp (bLen) (aCons (dVar 0) aNil)) (dApp (bLen) (aCons (dVar 1) aNil))))
    (sRet (dCst (.bl false)))
    sPass)
    (sSeq (sFor (iRng1 (dApp (bLen) (aCons (dVar 0) aNil))) (gName 2)
    (sIf (tVal (dBin (cmpI fun i j => decide (j < i)) (dBin opIx (dVar 0) (dVar 2)) (dBin opIx (dVar 1) (dVar 2))))
      (sRet (dCst (.bl false)))
      sPass))
    (sRet (dCst (.bl true)))))
@[irreducible] noncomputable def f_leq : FSem := runF 3 2 D_leq

/-! lub : slots 0 a, 1 b, 2 i -/
abbrev s_lub : Stmt := top 2
noncomputable def D_lub : DS :=
    (sRet (dApp (bTuple) (aCons (dLc false [2] (iRng1 (dApp (bLen) (aCons (dVar 0) aNil))) (gName 2) tYes (dApp (bMax) (aCons (dBin opIx (dVar 0) (dVar 2)) (aCons (dBin opIx (dVar 1) (dVar 2)) aNil)))) aNil)))
@[irreducible] noncomputable def f_lub : FSem := runF 3 2 D_lub

/-! tidy : slots 0 changes, 1 counts, 2 record, 3 time, 4 count, 5 key -/
abbrev s_tidy : Stmt := top 4
noncomputable def D_tidy : DS :=
    (sSeq (sAsg (dDct0 true) (gName 1))
    (sSeq (sFor (iSeq (dVar 0)) (gTup [(gName 2), (gName 3), (gName 4)])
    (sAsg (dBin (opAdd false) (dGet2 (dVar 1) (dTup (aCons (dVar 3) (aCons (dVar 2) aNil))) (dCst (.int 0))) (dVar 4)) (gSub (dVar 1) (dTup (aCons (dVar 3) (aCons (dVar 2) aNil))))))
    (sRet (dLc false [5] (iSeq (dApp (bSorted false) (aCons (dVar 1) aNil))) (gName 5) (tVal (dBin (cmpEq true) (dBin opIx (dVar 1) (dVar 5)) (dCst (.int 0)))) (dTup (aCons (dBin opIx (dVar 5) (dCst (.int 1))) (aCons (dBin opIx (dVar 5) (dCst (.int 0))) (aCons (dBin opIx (dVar 1) (dVar 5)) aNil))))))))
@[irreducible] noncomputable def f_tidy : FSem := runF 6 1 D_tidy

/-! redate : slots 0 changes, 1 floor, 2 record, 3 time, 4 count -/
abbrev s_redate : Stmt := top 5
noncomputable def D_redate : DS :=
    (sRet (dCall f_tidy false (aCons (dLc false [2, 3, 4] (iSeq (dVar 0)) (gTup [(gName 2), (gName 3), (gName 4)]) tYes (dTup (aCons (dVar 2) (aCons (dCall f_lub false (aCons (dVar 3) (aCons (dVar 1) aNil))) (aCons (dVar 4) aNil))))) aNil)))
@[irreducible] noncomputable def f_redate : FSem := runF 5 2 D_redate

/-! is_small : slots 0 changes, 1 floor, 2 record, 3 time, 4 count -/
abbrev s_is_small : Stmt := top 6
noncomputable def D_is_small : DS :=
    (sSeq (sFor (iSeq (dVar 0)) (gTup [(gName 2), (gName 3), (gName 4)])
    (sIf (tNot (tVal (dCall f_leq false (aCons (dVar 1) (aCons (dVar 3) aNil)))))
      (sRet (dCst (.bl false)))
      sPass))
    (sRet (dBin (cmpEq false) (dApp (bList false) (aCons (dVar 0) aNil)) (dCall f_tidy false (aCons (dVar 0) aNil)))))
@[irreducible] noncomputable def f_is_small : FSem := runF 5 2 D_is_small

/-! answers_alike : slots 0 first, 1 second, 2 floor -/
abbrev s_answers_alike : Stmt := top 7
noncomputable def D_answers_alike : DS :=
    (sRet (dBin (cmpEq false) (dCall f_redate false (aCons (dVar 0) (aCons (dVar 2) aNil))) (dCall f_redate false (aCons (dVar 1) (aCons (dVar 2) aNil)))))
@[irreducible] noncomputable def f_answers_alike : FSem := runF 3 3 D_answers_alike

/-! _law_mix : slots 0 number, 1 k -/
abbrev s_law_mix : Stmt := top 9
noncomputable def D_law_mix : DS :=
    (sSeq (sAsg (dBin opMod (dApp (bInt) (aCons (dBin (opAdd false) (dBin (opAdd false) (dBin opMul (dVar 0) (dCst (.int 48271))) (dBin opMul (dVar 1) (dCst (.int 69621)))) (dCst (.int 11))) aNil)) (dCst (.int 2147483647))) (gName 0))
    (sSeq (sAsg (dBin opMod (dApp (bInt) (aCons (dBin (opAdd false) (dBin (opAdd false) (dBin opMul (dVar 0) (dVar 0)) (dBin opMul (dVar 1) (dCst (.int 7919)))) (dCst (.int 5))) aNil)) (dCst (.int 2147483629))) (gName 0))
    (sRet (dBin opMod (dApp (bInt) (aCons (dBin (opAdd false) (dBin (opAdd false) (dBin opMul (dVar 0) (dVar 0)) (dBin opMul (dVar 1) (dCst (.int 40692)))) (dCst (.int 3))) aNil)) (dCst (.int 2147483587))))))
@[irreducible] noncomputable def f_law_mix : FSem := runF 2 2 D_law_mix

/-! _law_pool : slots 0 script, 1 pool, 2 state, 3 k, 4 cell, 5 turn -/
abbrev s_law_pool : Stmt := top 10
noncomputable def D_law_pool : DS :=
    (sSeq (sAsg (dLst true aNil) (gName 1))
    (sSeq (sAsg (dApp (bLen) (aCons (dVar 0) aNil)) (gName 2))
    (sSeq (sFor (iRng1 (dApp (bMin) (aCons (dApp (bLen) (aCons (dVar 0) aNil)) (aCons (dCst (.int 63)) aNil)))) (gName 3)
    (sSeq (sAsg (dApp (bAbs) (aCons (dApp (bInt) (aCons (dBin opIx (dVar 0) (dVar 3)) aNil)) aNil)) (gName 4))
      (sSeq (sAsg (dCall f_law_mix false (aCons (dBin (opAdd false) (dVar 2) (dBin opMod (dApp (bInt) (aCons (dVar 4) aNil)) (dCst (.int 1000000007)))) (aCons (dVar 3) aNil))) (gName 2))
      (sIf (tVal (dBin (cmpI fun i j => decide (j ≤ i)) (dVar 4) (dBin opPow (dCst (.int 10)) (dCst (.int 18)))))
      (sFor (iRng1 (dCst (.int 60))) (gName 5)
        (sIf (tVal (dBin (cmpI fun i j => decide (j < i)) (dVar 4) (dCst (.int 0))))
          (sSeq (sExpr (dMetL mAppend (dVar 1) (aCons (dBin opMod (dApp (bInt) (aCons (dVar 4) aNil)) (dCst (.int 1000))) aNil)))
            (sAsg (dBin opDiv (dVar 4) (dCst (.int 1000))) (gName 4)))
          sPass))
      (sFor (iRng1 (dCst (.int 3))) (gName 5)
        (sExpr (dMetL mAppend (dVar 1) (aCons (dCall f_law_mix false (aCons (dBin (opAdd false) (dVar 4) (dBin opMul (dCst (.int 65537)) (dVar 3))) (aCons (dVar 5) aNil))) aNil))))))))
    (sSeq (sExpr (dMetL mReverse (dVar 1) aNil))
    (sRet (dBin (opAdd true) (dLst false (aCons (dVar 2) (aCons (dCst (.int 0)) aNil))) (dVar 1)))))))
@[irreducible] noncomputable def f_law_pool : FSem := runF 6 1 D_law_pool

/-! _law_draw : slots 0 pool, 1 limit -/
abbrev s_law_draw : Stmt := top 11
noncomputable def D_law_draw : DS :=
    (sSeq (sIf (tVal (dBin (cmpI fun i j => decide (j < i)) (dApp (bLen) (aCons (dVar 0) aNil)) (dCst (.int 2))))
    (sRet (dBin opMod (dApp (bInt) (aCons (dMetL mPop (dVar 0) aNil) aNil)) (dVar 1)))
    sPass)
    (sSeq (sAsg (dBin (opAdd false) (dBin opIx (dVar 0) (dCst (.int 1))) (dCst (.int 1))) (gSub (dVar 0) (dCst (.int 1))))
    (sRet (dBin opMod (dApp (bInt) (aCons (dBin opDiv (dCall f_law_mix false (aCons (dBin (opAdd false) (dBin opIx (dVar 0) (dCst (.int 0))) (dBin opMul (dCst (.int 31)) (dBin opIx (dVar 0) (dCst (.int 1))))) (aCons (dBin opIx (dVar 0) (dCst (.int 1))) aNil))) (dCst (.int 3))) aNil)) (dVar 1)))))
@[irreducible] noncomputable def f_law_draw : FSem := runF 2 2 D_law_draw

/-! _law_pick : slots 0 pool, 1 rows -/
abbrev s_law_pick : Stmt := top 12
noncomputable def D_law_pick : DS :=
    (sRet (dBin opIx (dVar 1) (dCall f_law_draw false (aCons (dVar 0) (aCons (dApp (bLen) (aCons (dVar 1) aNil)) aNil)))))
@[irreducible] noncomputable def f_law_pick : FSem := runF 2 2 D_law_pick

/-! _law_whole : slots 0 number -/
abbrev s_law_whole : Stmt := top 13
noncomputable def D_law_whole : DS :=
    (sRet (dAnd (dUn (bIsi .int) (dVar 0)) (dUn opNot (dUn (bIsi .bool) (dVar 0)))))
@[irreducible] noncomputable def f_law_whole : FSem := runF 1 1 D_law_whole

/-! _law_plain : slots 0 key, 1 part -/
abbrev s_law_plain : Stmt := top 15
noncomputable def D_law_plain (self : FSem) : DS :=
    (sSeq (sIf (tVal (dUn (bIsi .tuple) (dVar 0)))
    (sRet (dBin (cmpIn true) (dCst (.bl false)) (dLc false [1] (iSeq (dVar 0)) (gName 1) tYes (dCall self false (aCons (dVar 1) aNil)))))
    sPass)
    (sRet (dOr (dUn (bIsi .str) (dVar 0)) (dCall f_law_whole false (aCons (dVar 0) aNil)))))
noncomputable def r_law_plain : Nat → FSem
  | 0 => noSem
  | n + 1 => runF 2 1 (D_law_plain (r_law_plain n))
@[irreducible] noncomputable def f_law_plain (n : Nat) : FSem := r_law_plain n

/-! _law_same : slots 0 told, 1 due, 2 key, 3 k -/
abbrev s_law_same : Stmt := top 14
noncomputable def D_law_same (self : FSem) : DS :=
    (sSeq (sIf (tVal (dUn (cmpIsN false) (dVar 1)))
    (sRet (dUn (cmpIsN false) (dVar 0)))
    sPass)
    (sSeq (sIf (tVal (dUn (bIsi .bool) (dVar 1)))
    (sRet (dAnd (dUn (bIsi .bool) (dVar 0)) (dBin (cmpEq false) (dVar 0) (dVar 1))))
    sPass)
    (sSeq (sIf (tVal (dUn (bIsi .int) (dVar 1)))
    (sRet (dAnd (dCall f_law_whole false (aCons (dVar 0) aNil)) (dBin (cmpEq false) (dVar 0) (dVar 1))))
    sPass)
    (sSeq (sIf (tVal (dUn (bIsi .str) (dVar 1)))
    (sRet (dAnd (dUn (bIsi .str) (dVar 0)) (dBin (cmpEq false) (dVar 0) (dVar 1))))
    sPass)
    (sSeq (sIf (tVal (dUn (bIsi .dict) (dVar 1)))
    (sSeq (sIf (tOr (tNot (tVal (dUn (bIsi .dict) (dVar 0)))) (tVal (dBin (cmpEq true) (dApp (bLen) (aCons (dVar 0) aNil)) (dApp (bLen) (aCons (dVar 1) aNil)))))
      (sRet (dCst (.bl false)))
      sPass)
      (sSeq (sFor (iSeq (dVar 0)) (gName 2)
      (sIf (tOr (tVal (dBin (cmpIn true) (dVar 2) (dVar 1))) (tOr (tNot (tVal (dCall self false (aCons (dBin opIx (dVar 0) (dVar 2)) (aCons (dBin opIx (dVar 1) (dVar 2)) aNil))))) (tNot (tVal (dCall (f_law_plain 6) false (aCons (dVar 2) aNil))))))
        (sRet (dCst (.bl false)))
        sPass))
      (sRet (dCst (.bl true)))))
    sPass)
    (sSeq (sIf (tOr (tVal (dBin (cmpEq true) (dUn (bIsi .list) (dVar 1)) (dUn (bIsi .list) (dVar 0)))) (tVal (dBin (cmpEq true) (dUn (bIsi .tuple) (dVar 1)) (dUn (bIsi .tuple) (dVar 0)))))
    (sRet (dCst (.bl false)))
    sPass)
    (sSeq (sIf (tVal (dBin (cmpEq true) (dApp (bLen) (aCons (dVar 0) aNil)) (dApp (bLen) (aCons (dVar 1) aNil))))
    (sRet (dCst (.bl false)))
    sPass)
    (sSeq (sFor (iRng1 (dApp (bLen) (aCons (dVar 1) aNil))) (gName 3)
    (sIf (tNot (tVal (dCall self false (aCons (dBin opIx (dVar 0) (dVar 3)) (aCons (dBin opIx (dVar 1) (dVar 3)) aNil)))))
      (sRet (dCst (.bl false)))
      sPass))
    (sRet (dCst (.bl true)))))))))))
noncomputable def r_law_same : Nat → FSem
  | 0 => noSem
  | n + 1 => runF 4 2 (D_law_same (r_law_same n))
@[irreducible] noncomputable def f_law_same (n : Nat) : FSem := r_law_same n

/-! _law_leq : slots 0 one, 1 two, 2 k -/
abbrev s_law_leq : Stmt := top 16
noncomputable def D_law_leq : DS :=
    (sRet (dBin (cmpIn true) (dCst (.bl false)) (dLc false [2] (iRng1 (dApp (bLen) (aCons (dVar 0) aNil))) (gName 2) tYes (dBin (cmpI fun i j => decide (i ≤ j)) (dBin opIx (dVar 0) (dVar 2)) (dBin opIx (dVar 1) (dVar 2))))))
@[irreducible] noncomputable def f_law_leq : FSem := runF 3 2 D_law_leq

/-! _law_join : slots 0 one, 1 two, 2 k -/
abbrev s_law_join : Stmt := top 17
noncomputable def D_law_join : DS :=
    (sRet (dApp (bTuple) (aCons (dLc false [2] (iRng1 (dApp (bLen) (aCons (dVar 0) aNil))) (gName 2) tYes (dApp (bMax) (aCons (dBin opIx (dVar 0) (dVar 2)) (aCons (dBin opIx (dVar 1) (dVar 2)) aNil)))) aNil)))
@[irreducible] noncomputable def f_law_join : FSem := runF 3 2 D_law_join

/-! _law_moment : slots 0 pool, 1 size, 2 span, 3 k -/
abbrev s_law_moment : Stmt := top 18
noncomputable def D_law_moment : DS :=
    (sRet (dApp (bTuple) (aCons (dLc false [3] (iRng1 (dVar 1)) (gName 3) tYes (dCall f_law_draw false (aCons (dVar 0) (aCons (dVar 2) aNil)))) aNil)))
@[irreducible] noncomputable def f_law_moment : FSem := runF 4 3 D_law_moment

/-! _law_fresh : slots 0 pool, 1 shape, 2 count -/
abbrev s_law_fresh : Stmt := top 19
noncomputable def D_law_fresh : DS :=
    (sSeq (sAsg (dCall f_law_pick false (aCons (dVar 0) (aCons (dLst false (aCons (dCst (.int 1)) (aCons (dUn opNeg (dCst (.int 1))) (aCons (dCst (.int 2)) (aCons (dCst (.int 0)) (aCons (dBin opSub (dCall f_law_draw false (aCons (dVar 0) (aCons (dCst (.int 1000)) aNil))) (dCst (.int 500))) (aCons (dBin opMul (dBin opSub (dCall f_law_draw false (aCons (dVar 0) (aCons (dCst (.int 1000)) aNil))) (dCst (.int 500))) (dBin opPow (dCst (.int 10)) (dCst (.int 24)))) aNil))))))) aNil))) (gName 2))
    (sRet (dTup (aCons (dCall f_law_moment false (aCons (dVar 0) (aCons (dBin opIx (dVar 1) (dCst (.int 0))) (aCons (dBin opIx (dVar 1) (dCst (.int 1))) aNil)))) (aCons (dCall f_law_moment false (aCons (dVar 0) (aCons (dBin opIx (dVar 1) (dCst (.int 2))) (aCons (dBin opIx (dVar 1) (dCst (.int 3))) aNil)))) (aCons (dVar 2) aNil))))))
@[irreducible] noncomputable def f_law_fresh : FSem := runF 3 2 D_law_fresh

/-! _law_changes : slots 0 pool, 1 shape, 2 many, 3 changes, 4 k, 5 fresh, 6 way, 7 old -/
abbrev s_law_changes : Stmt := top 20
noncomputable def D_law_changes : DS :=
    (sSeq (sAsg (dLst true aNil) (gName 3))
    (sSeq (sFor (iRng1 (dVar 2)) (gName 4)
    (sSeq (sAsg (dCall f_law_fresh false (aCons (dVar 0) (aCons (dVar 1) aNil))) (gName 5))
      (sSeq (sAsg (dCall f_law_draw false (aCons (dVar 0) (aCons (dCst (.int 4)) aNil))) (gName 6))
      (sSeq (sIf (tAnd (tVal (dBin (cmpI fun i j => decide (j < i)) (dVar 4) (dCst (.int 0)))) (tVal (dBin cmpLt (dVar 6) (dCst (.int 3)))))
      (sSeq (sAsg (dCall f_law_pick false (aCons (dVar 0) (aCons (dVar 3) aNil))) (gName 7))
        (sAsg (dTup (aCons (dBin opIx (dLst false (aCons (dBin opIx (dVar 7) (dCst (.int 0))) (aCons (dBin opIx (dVar 7) (dCst (.int 0))) (aCons (dBin opIx (dVar 5) (dCst (.int 0))) aNil)))) (dVar 6)) (aCons (dBin opIx (dLst false (aCons (dBin opIx (dVar 7) (dCst (.int 1))) (aCons (dBin opIx (dVar 5) (dCst (.int 1))) (aCons (dBin opIx (dVar 7) (dCst (.int 1))) aNil)))) (dVar 6)) (aCons (dBin opIx (dVar 5) (dCst (.int 2))) aNil)))) (gName 5)))
      sPass)
      (sExpr (dMetL mAppend (dVar 3) (aCons (dVar 5) aNil)))))))
    (sRet (dVar 3))))
@[irreducible] noncomputable def f_law_changes : FSem := runF 8 3 D_law_changes

/-! _law_beside : slots 0 pool, 1 time, 2 floor, 3 k -/
abbrev s_law_beside : Stmt := top 21
noncomputable def D_law_beside : DS :=
    (sRet (dApp (bTuple) (aCons (dLc false [3] (iRng1 (dApp (bLen) (aCons (dVar 1) aNil))) (gName 3) tYes (dBin opIx (dLst false (aCons (dBin opIx (dVar 1) (dVar 3)) (aCons (dCall f_law_draw false (aCons (dVar 0) (aCons (dBin (opAdd false) (dBin opIx (dVar 2) (dVar 3)) (dCst (.int 1))) aNil))) aNil))) (dApp (bInt) (aCons (dBin (cmpI fun i j => decide (i ≤ j)) (dBin opIx (dVar 1) (dVar 3)) (dBin opIx (dVar 2) (dVar 3))) aNil)))) aNil)))
@[irreducible] noncomputable def f_law_beside : FSem := runF 4 3 D_law_beside

/-! _law_detour : slots 0 pool, 1 changes, 2 floor, 3 shape, 4 rows, 5 change, 6 part, 7 k, 8 fresh, 9 at -/
abbrev s_law_detour : Stmt := top 22
noncomputable def D_law_detour : DS :=
    (sSeq (sAsg (dLst true aNil) (gName 4))
    (sSeq (sFor (iSeq (dVar 1)) (gName 5)
    (sSeq (sAsg (dBin opSub (dCall f_law_draw false (aCons (dVar 0) (aCons (dCst (.int 7)) aNil))) (dCst (.int 3))) (gName 6))
      (sSeq (sExpr (dMetL mAppend (dVar 4) (aCons (dTup (aCons (dBin opIx (dVar 5) (dCst (.int 0))) (aCons (dCall f_law_beside false (aCons (dVar 0) (aCons (dBin opIx (dVar 5) (dCst (.int 1))) (aCons (dVar 2) aNil)))) (aCons (dBin opSub (dBin opIx (dVar 5) (dCst (.int 2))) (dVar 6)) aNil)))) aNil)))
      (sIf (tVal (dBin (cmpEq true) (dVar 6) (dCst (.int 0))))
      (sExpr (dMetL mAppend (dVar 4) (aCons (dTup (aCons (dBin opIx (dVar 5) (dCst (.int 0))) (aCons (dCall f_law_beside false (aCons (dVar 0) (aCons (dBin opIx (dVar 5) (dCst (.int 1))) (aCons (dVar 2) aNil)))) (aCons (dVar 6) aNil)))) aNil)))
      sPass))))
    (sSeq (sFor (iRng1 (dCall f_law_draw false (aCons (dVar 0) (aCons (dCst (.int 3)) aNil)))) (gName 7)
    (sSeq (sAsg (dCall f_law_fresh false (aCons (dVar 0) (aCons (dVar 3) aNil))) (gName 8))
      (sSeq (sExpr (dMetL mAppend (dVar 4) (aCons (dVar 8) aNil)))
      (sExpr (dMetL mAppend (dVar 4) (aCons (dTup (aCons (dBin opIx (dVar 8) (dCst (.int 0))) (aCons (dCall f_law_beside false (aCons (dVar 0) (aCons (dBin opIx (dVar 8) (dCst (.int 1))) (aCons (dVar 2) aNil)))) (aCons (dUn opNeg (dBin opIx (dVar 8) (dCst (.int 2)))) aNil)))) aNil))))))
    (sSeq (sAsg (dCall f_law_draw false (aCons (dVar 0) (aCons (dBin (opAdd false) (dApp (bLen) (aCons (dVar 4) aNil)) (dCst (.int 1))) aNil))) (gName 9))
    (sRet (dBin (opAdd false) (dSl false (dVar 4) (oSome (dVar 9)) oNone) (dSl false (dVar 4) oNone (oSome (dVar 9)))))))))
@[irreducible] noncomputable def f_law_detour : FSem := runF 10 4 D_law_detour

/-! _law_bent : slots 0 pool, 1 rows, 2 floor, 3 shape, 4 way, 5 fresh, 6 bent, 7 at, 8 one, 9 k -/
abbrev s_law_bent : Stmt := top 23
noncomputable def D_law_bent : DS :=
    (sSeq (sAsg (dCall f_law_draw false (aCons (dVar 0) (aCons (dCst (.int 6)) aNil))) (gName 4))
    (sSeq (sAsg (dCall f_law_fresh false (aCons (dVar 0) (aCons (dVar 3) aNil))) (gName 5))
    (sSeq (sAsg (dApp (bList true) (aCons (dVar 1) aNil)) (gName 6))
    (sSeq (sIf (tOr (tVal (dBin (cmpEq false) (dVar 4) (dCst (.int 0)))) (tVal (dBin (cmpEq false) (dApp (bLen) (aCons (dVar 1) aNil)) (dCst (.int 0)))))
    (sSeq (sExpr (dMetL mInsert (dVar 6) (aCons (dCall f_law_draw false (aCons (dVar 0) (aCons (dBin (opAdd false) (dApp (bLen) (aCons (dVar 1) aNil)) (dCst (.int 1))) aNil))) (aCons (dTup (aCons (dBin opIx (dVar 5) (dCst (.int 0))) (aCons (dCall f_law_join false (aCons (dBin opIx (dVar 5) (dCst (.int 1))) (aCons (dVar 2) aNil))) (aCons (dBin opIx (dVar 5) (dCst (.int 2))) aNil)))) aNil))))
      (sRet (dVar 6)))
    sPass)
    (sSeq (sAsg (dCall f_law_draw false (aCons (dVar 0) (aCons (dApp (bLen) (aCons (dVar 1) aNil)) aNil))) (gName 7))
    (sSeq (sAsg (dBin opIx (dVar 1) (dVar 7)) (gName 8))
    (sSeq (sIf (tVal (dBin (cmpEq false) (dVar 4) (dCst (.int 1))))
    (sExpr (dMetL mPopAt (dVar 6) (aCons (dVar 7) aNil)))
    (sIf (tVal (dBin (cmpEq false) (dVar 4) (dCst (.int 2))))
      (sSeq (sAsg (dCall f_law_draw false (aCons (dVar 0) (aCons (dApp (bLen) (aCons (dVar 2) aNil)) aNil))) (gName 9))
        (sAsg (dTup (aCons (dBin opIx (dVar 8) (dCst (.int 0))) (aCons (dBin (opAdd false) (dBin (opAdd false) (dSl false (dBin opIx (dVar 8) (dCst (.int 1))) oNone (oSome (dVar 9))) (dTup (aCons (dApp (bMin) (aCons (dCst (.int 99)) (aCons (dBin (opAdd false) (dBin (opAdd false) (dBin opIx (dBin opIx (dVar 8) (dCst (.int 1))) (dVar 9)) (dCst (.int 1))) (dCall f_law_draw false (aCons (dVar 0) (aCons (dCst (.int 2)) aNil)))) aNil))) aNil))) (dSl false (dBin opIx (dVar 8) (dCst (.int 1))) (oSome (dBin (opAdd false) (dVar 9) (dCst (.int 1)))) oNone)) (aCons (dBin opIx (dVar 8) (dCst (.int 2))) aNil)))) (gSub (dVar 6) (dVar 7))))
      (sIf (tVal (dBin (cmpEq false) (dVar 4) (dCst (.int 3))))
        (sAsg (dTup (aCons (dBin opIx (dVar 8) (dCst (.int 0))) (aCons (dBin opIx (dCall f_law_pick false (aCons (dVar 0) (aCons (dVar 1) aNil))) (dCst (.int 1))) (aCons (dBin opIx (dVar 8) (dCst (.int 2))) aNil)))) (gSub (dVar 6) (dVar 7)))
        (sIf (tVal (dBin (cmpEq false) (dVar 4) (dCst (.int 4))))
          (sSeq (sAsg (dTup (aCons (dBin opIx (dVar 8) (dCst (.int 0))) (aCons (dBin opIx (dVar 8) (dCst (.int 1))) (aCons (dBin opSub (dBin opIx (dVar 8) (dCst (.int 2))) (dCst (.int 7))) aNil)))) (gSub (dVar 6) (dVar 7)))
            (sExpr (dMetL mInsert (dVar 6) (aCons (dCall f_law_draw false (aCons (dVar 0) (aCons (dBin (opAdd false) (dApp (bLen) (aCons (dVar 1) aNil)) (dCst (.int 1))) aNil))) (aCons (dTup (aCons (dBin opIx (dVar 8) (dCst (.int 0))) (aCons (dBin opIx (dVar 8) (dCst (.int 1))) (aCons (dCst (.int 7)) aNil)))) aNil)))))
          (sAsg (dTup (aCons (dBin opIx (dLst false (aCons (dBin opIx (dVar 5) (dCst (.int 0))) (aCons (dBin opIx (dVar 8) (dCst (.int 0))) aNil))) (dCall f_law_draw false (aCons (dVar 0) (aCons (dCst (.int 2)) aNil)))) (aCons (dBin opIx (dVar 8) (dCst (.int 1))) (aCons (dBin (opAdd false) (dBin opIx (dVar 8) (dCst (.int 2))) (dCall f_law_pick false (aCons (dVar 0) (aCons (dLst false (aCons (dCst (.int 0)) (aCons (dCst (.int 1)) (aCons (dUn opNeg (dCst (.int 2))) aNil)))) aNil)))) aNil)))) (gSub (dVar 6) (dVar 7)))))))
    (sRet (dVar 6)))))))))
@[irreducible] noncomputable def f_law_bent : FSem := runF 10 4 D_law_bent

/-! _law_tidied : slots 0 changes, 1 made, 2 key, 3 change, 4 total -/
abbrev s_law_tidied : Stmt := top 24
noncomputable def D_law_tidied : DS :=
    (sSeq (sAsg (dLst true aNil) (gName 1))
    (sSeq (sFor (iSeq (dApp (bSorted false) (aCons (dLc false [3] (iSeq (dVar 0)) (gName 3) tYes (dTup (aCons (dBin opIx (dVar 3) (dCst (.int 1))) (aCons (dBin opIx (dVar 3) (dCst (.int 0))) aNil)))) aNil))) (gName 2)
    (sSeq (sAsg (dApp (bSum) (aCons (dLc false [3] (iSeq (dVar 0)) (gName 3) (tAnd (tVal (dBin (cmpEq false) (dBin opIx (dVar 3) (dCst (.int 1))) (dBin opIx (dVar 2) (dCst (.int 0))))) (tVal (dBin (cmpEq false) (dBin opIx (dVar 3) (dCst (.int 0))) (dBin opIx (dVar 2) (dCst (.int 1)))))) (dBin opIx (dVar 3) (dCst (.int 2)))) aNil)) (gName 4))
      (sIf (tAnd (tVal (dBin (cmpEq true) (dVar 4) (dCst (.int 0)))) (tVal (dBin (cmpIn true) (dTup (aCons (dBin opIx (dVar 2) (dCst (.int 1))) (aCons (dBin opIx (dVar 2) (dCst (.int 0))) (aCons (dVar 4) aNil)))) (dVar 1))))
      (sExpr (dMetL mAppend (dVar 1) (aCons (dTup (aCons (dBin opIx (dVar 2) (dCst (.int 1))) (aCons (dBin opIx (dVar 2) (dCst (.int 0))) (aCons (dVar 4) aNil)))) aNil)))
      sPass)))
    (sRet (dVar 1))))
@[irreducible] noncomputable def f_law_tidied : FSem := runF 5 1 D_law_tidied

/-! _law_moved : slots 0 changes, 1 floor, 2 change -/
abbrev s_law_moved : Stmt := top 25
noncomputable def D_law_moved : DS :=
    (sRet (dCall f_law_tidied false (aCons (dLc false [2] (iSeq (dVar 0)) (gName 2) tYes (dTup (aCons (dBin opIx (dVar 2) (dCst (.int 0))) (aCons (dCall f_law_join false (aCons (dBin opIx (dVar 2) (dCst (.int 1))) (aCons (dVar 1) aNil))) (aCons (dBin opIx (dVar 2) (dCst (.int 2))) aNil))))) aNil)))
@[irreducible] noncomputable def f_law_moved : FSem := runF 3 2 D_law_moved

/-! _law_seen : slots 0 changes, 1 time, 2 bag, 3 change, 4 record -/
abbrev s_law_seen : Stmt := top 26
noncomputable def D_law_seen : DS :=
    (sSeq (sAsg (dDct0 true) (gName 2))
    (sSeq (sFor (iSeq (dVar 0)) (gName 3)
    (sIf (tVal (dCall f_law_leq false (aCons (dBin opIx (dVar 3) (dCst (.int 1))) (aCons (dVar 1) aNil))))
      (sAsg (dBin (opAdd false) (dGet2 (dVar 2) (dBin opIx (dVar 3) (dCst (.int 0))) (dCst (.int 0))) (dBin opIx (dVar 3) (dCst (.int 2)))) (gSub (dVar 2) (dBin opIx (dVar 3) (dCst (.int 0)))))
      sPass))
    (sRet (dLc false [4] (iSeq (dApp (bSorted false) (aCons (dVar 2) aNil))) (gName 4) (tVal (dBin (cmpEq true) (dBin opIx (dVar 2) (dVar 4)) (dCst (.int 0)))) (dTup (aCons (dVar 4) (aCons (dBin opIx (dVar 2) (dVar 4)) aNil)))))))
@[irreducible] noncomputable def f_law_seen : FSem := runF 5 2 D_law_seen

/-! _law_agree : slots 0 first, 1 second, 2 floor, 3 change, 4 time -/
abbrev s_law_agree : Stmt := top 27
noncomputable def D_law_agree : DS :=
    (sSeq (sFor (iSeq (dBin (opAdd false) (dVar 0) (dVar 1))) (gName 3)
    (sSeq (sAsg (dCall f_law_join false (aCons (dBin opIx (dVar 3) (dCst (.int 1))) (aCons (dVar 2) aNil))) (gName 4))
      (sIf (tVal (dBin (cmpEq true) (dCall f_law_seen false (aCons (dVar 0) (aCons (dVar 4) aNil))) (dCall f_law_seen false (aCons (dVar 1) (aCons (dVar 4) aNil)))))
      (sRet (dCst (.bl false)))
      sPass)))
    (sRet (dCst (.bl true))))
@[irreducible] noncomputable def f_law_agree : FSem := runF 5 3 D_law_agree

/-! _law_small : slots 0 changes, 1 floor, 2 k -/
abbrev s_law_small : Stmt := top 28
noncomputable def D_law_small : DS :=
    (sSeq (sFor (iRng1 (dApp (bLen) (aCons (dVar 0) aNil))) (gName 2)
    (sSeq (sIf (tOr (tVal (dBin (cmpEq false) (dBin opIx (dBin opIx (dVar 0) (dVar 2)) (dCst (.int 2))) (dCst (.int 0)))) (tNot (tVal (dCall f_law_leq false (aCons (dVar 1) (aCons (dBin opIx (dBin opIx (dVar 0) (dVar 2)) (dCst (.int 1))) aNil))))))
      (sRet (dCst (.bl false)))
      sPass)
      (sIf (tAnd (tVal (dBin (cmpI fun i j => decide (j < i)) (dVar 2) (dCst (.int 0)))) (tNot (tVal (dBin cmpLt (dTup (aCons (dBin opIx (dBin opIx (dVar 0) (dBin opSub (dVar 2) (dCst (.int 1)))) (dCst (.int 1))) (aCons (dBin opIx (dBin opIx (dVar 0) (dBin opSub (dVar 2) (dCst (.int 1)))) (dCst (.int 0))) aNil))) (dTup (aCons (dBin opIx (dBin opIx (dVar 0) (dVar 2)) (dCst (.int 1))) (aCons (dBin opIx (dBin opIx (dVar 0) (dVar 2)) (dCst (.int 0))) aNil)))))))
      (sRet (dCst (.bl false)))
      sPass)))
    (sRet (dCst (.bl true))))
@[irreducible] noncomputable def f_law_small : FSem := runF 3 2 D_law_small

/-! _law_ordered : slots 0 rows, 1 key, 2 row -/
abbrev s_law_ordered : Stmt := top 29
noncomputable def D_law_ordered : DS :=
    (sRet (dLc false [1] (iSeq (dApp (bSorted false) (aCons (dLc false [2] (iSeq (dVar 0)) (gName 2) tYes (dTup (aCons (dBin opIx (dVar 2) (dCst (.int 1))) (aCons (dBin opIx (dVar 2) (dCst (.int 0))) (aCons (dBin opIx (dVar 2) (dCst (.int 2))) aNil))))) aNil))) (gName 1) tYes (dTup (aCons (dBin opIx (dVar 1) (dCst (.int 1))) (aCons (dBin opIx (dVar 1) (dCst (.int 0))) (aCons (dBin opIx (dVar 1) (dCst (.int 2))) aNil))))))
@[irreducible] noncomputable def f_law_ordered : FSem := runF 3 1 D_law_ordered

/-! _law_spoilt : slots 0 pool, 1 rows, 2 floor, 3 shape, 4 fresh, 5 lists, 6 k, 7 low, 8 at, 9 one -/
abbrev s_law_spoilt : Stmt := top 30
noncomputable def D_law_spoilt : DS :=
    (sSeq (sAsg (dCall f_law_fresh false (aCons (dVar 0) (aCons (dVar 3) aNil))) (gName 4))
    (sSeq (sAsg (dLst true (aCons (dVar 1) (aCons (dLst false aNil) (aCons (dCall f_law_ordered false (aCons (dBin (opAdd false) (dVar 1) (dLst false (aCons (dTup (aCons (dBin opIx (dVar 4) (dCst (.int 0))) (aCons (dCall f_law_join false (aCons (dBin opIx (dVar 4) (dCst (.int 1))) (aCons (dVar 2) aNil))) (aCons (dCst (.int 0)) aNil)))) aNil))) aNil)) aNil)))) (gName 5))
    (sSeq (sAsg (dCall f_law_draw false (aCons (dVar 0) (aCons (dApp (bLen) (aCons (dVar 2) aNil)) aNil))) (gName 6))
    (sSeq (sIf (tVal (dBin (cmpI fun i j => decide (j < i)) (dBin opIx (dVar 2) (dVar 6)) (dCst (.int 0))))
    (sSeq (sAsg (dBin (opAdd false) (dBin (opAdd false) (dSl false (dVar 2) oNone (oSome (dVar 6))) (dTup (aCons (dCall f_law_draw false (aCons (dVar 0) (aCons (dBin opIx (dVar 2) (dVar 6)) aNil))) aNil))) (dSl false (dVar 2) (oSome (dBin (opAdd false) (dVar 6) (dCst (.int 1)))) oNone)) (gName 7))
      (sExpr (dMetL mAppend (dVar 5) (aCons (dCall f_law_ordered false (aCons (dBin (opAdd false) (dVar 1) (dLst false (aCons (dTup (aCons (dBin opIx (dVar 4) (dCst (.int 0))) (aCons (dVar 7) (aCons (dCst (.int 5)) aNil)))) aNil))) aNil)) aNil))))
    sPass)
    (sSeq (sIf (tVal (dBin (cmpI fun i j => decide (j < i)) (dApp (bLen) (aCons (dVar 1) aNil)) (dCst (.int 0))))
    (sSeq (sAsg (dCall f_law_draw false (aCons (dVar 0) (aCons (dApp (bLen) (aCons (dVar 1) aNil)) aNil))) (gName 8))
      (sSeq (sAsg (dBin opIx (dVar 1) (dVar 8)) (gName 9))
      (sSeq (sExpr (dMetL mAppend (dVar 5) (aCons (dBin (opAdd false) (dBin (opAdd false) (dSl false (dVar 1) oNone (oSome (dVar 8))) (dLst false (aCons (dTup (aCons (dBin opIx (dVar 9) (dCst (.int 0))) (aCons (dBin opIx (dVar 9) (dCst (.int 1))) (aCons (dUn opNeg (dBin opIx (dVar 9) (dCst (.int 2)))) aNil)))) (aCons (dTup (aCons (dBin opIx (dVar 9) (dCst (.int 0))) (aCons (dBin opIx (dVar 9) (dCst (.int 1))) (aCons (dBin opMul (dCst (.int 2)) (dBin opIx (dVar 9) (dCst (.int 2)))) aNil)))) aNil)))) (dSl false (dVar 1) (oSome (dBin (opAdd false) (dVar 8) (dCst (.int 1)))) oNone)) aNil)))
      (sExpr (dMetL mAppend (dVar 5) (aCons (dBin (opAdd false) (dSl false (dVar 1) oNone (oSome (dVar 8))) (dSl false (dVar 1) (oSome (dBin (opAdd false) (dVar 8) (dCst (.int 1)))) oNone)) aNil))))))
    sPass)
    (sSeq (sIf (tVal (dBin (cmpI fun i j => decide (j < i)) (dApp (bLen) (aCons (dVar 1) aNil)) (dCst (.int 1))))
    (sSeq (sAsg (dCall f_law_draw false (aCons (dVar 0) (aCons (dBin opSub (dApp (bLen) (aCons (dVar 1) aNil)) (dCst (.int 1))) aNil))) (gName 8))
      (sExpr (dMetL mAppend (dVar 5) (aCons (dBin (opAdd false) (dBin (opAdd false) (dSl false (dVar 1) oNone (oSome (dVar 8))) (dLst false (aCons (dBin opIx (dVar 1) (dBin (opAdd false) (dVar 8) (dCst (.int 1)))) (aCons (dBin opIx (dVar 1) (dVar 8)) aNil)))) (dSl false (dVar 1) (oSome (dBin (opAdd false) (dVar 8) (dCst (.int 2)))) oNone)) aNil))))
    sPass)
    (sRet (dVar 5))))))))
@[irreducible] noncomputable def f_law_spoilt : FSem := runF 10 4 D_law_spoilt

/-! _law_alike_right : slots 0 first, 1 second, 2 floor, 3 due, 4 one, 5 two -/
abbrev s_law_alike_right : Stmt := top 31
noncomputable def D_law_alike_right : DS :=
    (sSeq (sAsg (dApp (bList false) (aCons (dVar 0) aNil)) (gName 4))
    (sSeq (sAsg (dApp (bList false) (aCons (dVar 1) aNil)) (gName 5))
    (sSeq (sIf (tOr (tNot (tVal (dCall (f_law_same 6) false (aCons (dCall f_answers_alike false (aCons (dVar 4) (aCons (dVar 5) (aCons (dVar 2) aNil)))) (aCons (dVar 3) aNil))))) (tNot (tVal (dCall (f_law_same 6) false (aCons (dCall f_answers_alike false (aCons (dVar 5) (aCons (dVar 4) (aCons (dVar 2) aNil)))) (aCons (dVar 3) aNil))))))
    (sRet (dCst (.bl false)))
    sPass)
    (sRet (dAnd (dCall (f_law_same 6) false (aCons (dVar 4) (aCons (dVar 0) aNil))) (dCall (f_law_same 6) false (aCons (dVar 5) (aCons (dVar 1) aNil))))))))
@[irreducible] noncomputable def f_law_alike_right : FSem := runF 6 4 D_law_alike_right

/-! law : slots 0 script, 1 pool, 2 span, 3 shape, 4 many, 5 first, 6 floor, 7 way, 8 second, 9 due, 10 agreed, 11 extra, 12 longer, 13 rows, 14 told, 15 handed -/
abbrev s_law : Stmt := top 32
noncomputable def D_law : DS :=
    (sSeq (sAsg (dCall f_law_pool true (aCons (dVar 0) aNil)) (gName 1))
    (sSeq (sAsg (dCall f_law_pick false (aCons (dVar 1) (aCons (dLst false (aCons (dCst (.int 3)) (aCons (dCst (.int 2)) (aCons (dCst (.int 4)) (aCons (dCst (.int 100)) aNil))))) aNil))) (gName 2))
    (sSeq (sAsg (dTup (aCons (dBin (opAdd false) (dCst (.int 1)) (dCall f_law_draw false (aCons (dVar 1) (aCons (dCst (.int 4)) aNil)))) (aCons (dCall f_law_pick false (aCons (dVar 1) (aCons (dLst false (aCons (dCst (.int 2)) (aCons (dCst (.int 3)) (aCons (dCst (.int 100)) aNil)))) aNil))) (aCons (dCall f_law_pick false (aCons (dVar 1) (aCons (dLst false (aCons (dCst (.int 2)) (aCons (dCst (.int 1)) (aCons (dCst (.int 3)) (aCons (dCst (.int 4)) (aCons (dCst (.int 2)) (aCons (dCst (.int 3)) aNil))))))) aNil))) (aCons (dVar 2) aNil))))) (gName 3))
    (sSeq (sAsg (dCall f_law_draw false (aCons (dVar 1) (aCons (dCst (.int 8)) aNil))) (gName 4))
    (sSeq (sIf (tVal (dBin (cmpEq false) (dCall f_law_draw false (aCons (dVar 1) (aCons (dCst (.int 16)) aNil))) (dCst (.int 15))))
    (sAsg (dBin (opAdd false) (dCst (.int 8)) (dCall f_law_draw false (aCons (dVar 1) (aCons (dCst (.int 16)) aNil)))) (gName 4))
    sPass)
    (sSeq (sAsg (dCall f_law_changes false (aCons (dVar 1) (aCons (dVar 3) (aCons (dVar 4) aNil)))) (gName 5))
    (sSeq (sAsg (dCall f_law_moment false (aCons (dVar 1) (aCons (dBin opIx (dVar 3) (dCst (.int 2))) (aCons (dVar 2) aNil)))) (gName 6))
    (sSeq (sAsg (dCall f_law_draw false (aCons (dVar 1) (aCons (dCst (.int 4)) aNil))) (gName 7))
    (sSeq (sAsg (dCall f_law_detour false (aCons (dVar 1) (aCons (dVar 5) (aCons (dVar 6) (aCons (dVar 3) aNil))))) (gName 8))
    (sSeq (sIf (tVal (dBin (cmpEq false) (dVar 7) (dCst (.int 1))))
    (sAsg (dCall f_law_bent false (aCons (dVar 1) (aCons (dVar 8) (aCons (dSl false (dTup (aCons (dCst (.int 0)) (aCons (dCst (.int 0)) (aCons (dCst (.int 0)) (aCons (dCst (.int 0)) aNil))))) oNone (oSome (dBin opIx (dVar 3) (dCst (.int 2))))) (aCons (dVar 3) aNil))))) (gName 8))
    sPass)
    (sSeq (sIf (tVal (dBin (cmpEq false) (dVar 7) (dCst (.int 2))))
    (sAsg (dCall f_law_changes false (aCons (dVar 1) (aCons (dVar 3) (aCons (dCall f_law_draw false (aCons (dVar 1) (aCons (dCst (.int 8)) aNil))) aNil)))) (gName 8))
    sPass)
    (sSeq (sAsg (dCall f_law_moved false (aCons (dVar 5) (aCons (dVar 6) aNil))) (gName 9))
    (sSeq (sAsg (dCall f_law_agree false (aCons (dVar 5) (aCons (dVar 8) (aCons (dVar 6) aNil)))) (gName 10))
    (sSeq (sIf (tNot (tVal (dCall f_law_alike_right false (aCons (dVar 5) (aCons (dVar 8) (aCons (dVar 6) (aCons (dVar 10) aNil)))))))
    (sRet (dCst (.bl false)))
    sPass)
    (sSeq (sAsg (dCall f_law_fresh false (aCons (dVar 1) (aCons (dVar 3) aNil))) (gName 11))
    (sSeq (sAsg (dBin (opAdd false) (dVar 8) (dLst false (aCons (dTup (aCons (dBin opIx (dVar 11) (dCst (.int 0))) (aCons (dBin opIx (dVar 11) (dCst (.int 1))) (aCons (dBin opPow (dCst (.int 10)) (dCst (.int 50))) aNil)))) aNil))) (gName 12))
    (sSeq (sIf (tNot (tVal (dCall f_law_alike_right false (aCons (dVar 5) (aCons (dVar 12) (aCons (dVar 6) (aCons (dCall f_law_agree false (aCons (dVar 5) (aCons (dVar 12) (aCons (dVar 6) aNil)))) aNil)))))))
    (sRet (dCst (.bl false)))
    sPass)
    (sSeq (sFor (iSeq (dLst false (aCons (dVar 5) (aCons (dVar 8) (aCons (dVar 12) aNil))))) (gName 13)
    (sSeq (sAsg (dCall f_redate false (aCons (dApp (bList false) (aCons (dVar 13) aNil)) (aCons (dVar 6) aNil))) (gName 14))
      (sIf (tOr (tNot (tVal (dCall (f_law_same 6) false (aCons (dVar 14) (aCons (dCall f_law_moved false (aCons (dVar 13) (aCons (dVar 6) aNil))) aNil))))) (tVal (dBin (cmpI fun i j => decide (j < i)) (dApp (bLen) (aCons (dVar 14) aNil)) (dApp (bLen) (aCons (dVar 13) aNil)))))
      (sRet (dCst (.bl false)))
      sPass)))
    (sSeq (sIf (tAnd (tVal (dVar 10)) (tNot (tVal (dCall (f_law_same 6) false (aCons (dCall f_redate false (aCons (dApp (bList false) (aCons (dVar 8) aNil)) (aCons (dVar 6) aNil))) (aCons (dVar 9) aNil))))))
    (sRet (dCst (.bl false)))
    sPass)
    (sSeq (sFor (iSeq (dLst false (aCons (dVar 9) (aCons (dCall f_law_bent false (aCons (dVar 1) (aCons (dVar 9) (aCons (dVar 6) (aCons (dVar 3) aNil))))) (aCons (dCall f_law_bent false (aCons (dVar 1) (aCons (dVar 9) (aCons (dVar 6) (aCons (dVar 3) aNil))))) aNil))))) (gName 13)
    (sIf (tNot (tVal (dCall f_law_alike_right false (aCons (dVar 5) (aCons (dVar 13) (aCons (dVar 6) (aCons (dBin (cmpEq false) (dCall f_law_tidied false (aCons (dVar 13) aNil)) (dVar 9)) aNil)))))))
      (sRet (dCst (.bl false)))
      sPass))
    (sSeq (sFor (iSeq (dCall f_law_spoilt false (aCons (dVar 1) (aCons (dVar 9) (aCons (dVar 6) (aCons (dVar 3) aNil)))))) (gName 13)
    (sSeq (sAsg (dApp (bList false) (aCons (dVar 13) aNil)) (gName 15))
      (sIf (tOr (tNot (tVal (dCall (f_law_same 6) false (aCons (dCall f_is_small false (aCons (dVar 15) (aCons (dVar 6) aNil))) (aCons (dCall f_law_small false (aCons (dVar 13) (aCons (dVar 6) aNil))) aNil))))) (tNot (tVal (dCall (f_law_same 6) false (aCons (dVar 15) (aCons (dVar 13) aNil))))))
      (sRet (dCst (.bl false)))
      sPass)))
    (sRet (dCst (.bl true))))))))))))))))))))))))
@[irreducible] noncomputable def f_law : FSem := runF 16 1 D_law
abbrev bs : List Str := ["len", "abs", "int", "max", "min", "tuple", "list", "sorted", "isinstance", "range", "bool", "str", "dict", "set", "reversed", "sum"]
def BsOk (mg : Str → Option Value) : Prop := ∀ n, bs.contains n = true → mg n = none
section
variable {P : Program} {w : World} {K : PySem.W.Frag} {mg : Str → Option Value} {base : Heap}
theorem sc_leq : FnScope ["a", "b", "i"] ["a", "b"] (defScope s_leq) := ⟨rfl, rfl, rfl, by decide +kernel, rfl, by decide +kernel, by decide +kernel⟩
theorem t_leq : trSs 60 ⟨["a", "b", "i"], defScope s_leq, fun _ => true, [], bs, []⟩ (defBody s_leq) = some D_leq := by kernel_rfl
theorem e_leq {fa : Addr} {fd : FuncData} (F : Fun K "leq" "leq" s_leq fa fd) (hm : mg "leq" = some (.ref fa)) (B : BsOk mg)  : Ent P w K mg base 1 "leq" 2 f_leq := by
  unfold f_leq
  exact ⟨fa, fd, ["a", "b"], fn_tr (k := 0) F sc_leq GAll.nil B t_leq, hm, F.kp, F.binds (ps := ["a", "b"]) fun _ _ _ _ _ _ us hl => match us, hl with | [_, _], _ => rfl⟩
theorem sc_lub : FnScope ["a", "b", "i"] ["a", "b"] (defScope s_lub) := ⟨rfl, rfl, rfl, by decide +kernel, rfl, by decide +kernel, by decide +kernel⟩
theorem t_lub : trSs 60 ⟨["a", "b", "i"], defScope s_lub, fun _ => true, [], bs, []⟩ (defBody s_lub) = some D_lub := by kernel_rfl
theorem e_lub {fa : Addr} {fd : FuncData} (F : Fun K "lub" "lub" s_lub fa fd) (hm : mg "lub" = some (.ref fa)) (B : BsOk mg)  : Ent P w K mg base 1 "lub" 2 f_lub := by
  unfold f_lub
  exact ⟨fa, fd, ["a", "b"], fn_tr (k := 0) F sc_lub GAll.nil B t_lub, hm, F.kp, F.binds (ps := ["a", "b"]) fun _ _ _ _ _ _ us hl => match us, hl with | [_, _], _ => rfl⟩
theorem sc_tidy : FnScope ["changes", "counts", "record", "time", "count", "key"] ["changes"] (defScope s_tidy) := ⟨rfl, rfl, rfl, by decide +kernel, rfl, by decide +kernel, by decide +kernel⟩
theorem t_tidy : trSs 60 ⟨["changes", "counts", "record", "time", "count", "key"], defScope s_tidy, fun _ => true, [], bs, [(13, 13, 15)]⟩ (defBody s_tidy) = some D_tidy := by kernel_rfl
theorem e_tidy {fa : Addr} {fd : FuncData} (F : Fun K "tidy" "tidy" s_tidy fa fd) (hm : mg "tidy" = some (.ref fa)) (B : BsOk mg)  : Ent P w K mg base 1 "tidy" 1 f_tidy := by
  unfold f_tidy
  exact ⟨fa, fd, ["changes"], fn_tr (k := 0) F sc_tidy GAll.nil B t_tidy, hm, F.kp, F.binds (ps := ["changes"]) fun _ _ _ _ _ _ us hl => match us, hl with | [_], _ => rfl⟩
theorem sc_redate : FnScope ["changes", "floor", "record", "time", "count"] ["changes", "floor"] (defScope s_redate) := ⟨rfl, rfl, rfl, by decide +kernel, rfl, by decide +kernel, by decide +kernel⟩
theorem t_redate : trSs 60 ⟨["changes", "floor", "record", "time", "count"], defScope s_redate, fun _ => true, [("tidy", 1, f_tidy), ("lub", 2, f_lub)], bs, []⟩ (defBody s_redate) = some D_redate := by kernel_rfl
theorem e_redate {fa : Addr} {fd : FuncData} (F : Fun K "redate" "redate" s_redate fa fd) (hm : mg "redate" = some (.ref fa)) (B : BsOk mg) (h0 : Ent P w K mg base 1 "tidy" 1 f_tidy) (h1 : Ent P w K mg base 1 "lub" 2 f_lub) : Ent P w K mg base 2 "redate" 2 f_redate := by
  unfold f_redate
  exact ⟨fa, fd, ["changes", "floor"], fn_tr (k := 1) F sc_redate (GAll.cons (h0.mono (by decide)) (GAll.cons (h1.mono (by decide)) GAll.nil)) B t_redate, hm, F.kp, F.binds (ps := ["changes", "floor"]) fun _ _ _ _ _ _ us hl => match us, hl with | [_, _], _ => rfl⟩
theorem sc_is_small : FnScope ["changes", "floor", "record", "time", "count"] ["changes", "floor"] (defScope s_is_small) := ⟨rfl, rfl, rfl, by decide +kernel, rfl, by decide +kernel, by decide +kernel⟩
theorem t_is_small : trSs 60 ⟨["changes", "floor", "record", "time", "count"], defScope s_is_small, fun _ => true, [("tidy", 1, f_tidy), ("leq", 2, f_leq)], bs, []⟩ (defBody s_is_small) = some D_is_small := by kernel_rfl
theorem e_is_small {fa : Addr} {fd : FuncData} (F : Fun K "is_small" "is_small" s_is_small fa fd) (hm : mg "is_small" = some (.ref fa)) (B : BsOk mg) (h0 : Ent P w K mg base 1 "tidy" 1 f_tidy) (h1 : Ent P w K mg base 1 "leq" 2 f_leq) : Ent P w K mg base 2 "is_small" 2 f_is_small := by
  unfold f_is_small
  exact ⟨fa, fd, ["changes", "floor"], fn_tr (k := 1) F sc_is_small (GAll.cons (h0.mono (by decide)) (GAll.cons (h1.mono (by decide)) GAll.nil)) B t_is_small, hm, F.kp, F.binds (ps := ["changes", "floor"]) fun _ _ _ _ _ _ us hl => match us, hl with | [_, _], _ => rfl⟩
theorem sc_answers_alike : FnScope ["first", "second", "floor"] ["first", "second", "floor"] (defScope s_answers_alike) := ⟨rfl, rfl, rfl, by decide +kernel, rfl, by decide +kernel, by decide +kernel⟩
theorem t_answers_alike : trSs 60 ⟨["first", "second", "floor"], defScope s_answers_alike, fun _ => true, [("redate", 2, f_redate)], bs, []⟩ (defBody s_answers_alike) = some D_answers_alike := by kernel_rfl
theorem e_answers_alike {fa : Addr} {fd : FuncData} (F : Fun K "answers_alike" "answers_alike" s_answers_alike fa fd) (hm : mg "answers_alike" = some (.ref fa)) (B : BsOk mg) (h0 : Ent P w K mg base 2 "redate" 2 f_redate) : Ent P w K mg base 3 "answers_alike" 3 f_answers_alike := by
  unfold f_answers_alike
  exact ⟨fa, fd, ["first", "second", "floor"], fn_tr (k := 2) F sc_answers_alike (GAll.cons (h0.mono (by decide)) GAll.nil) B t_answers_alike, hm, F.kp, F.binds (ps := ["first", "second", "floor"]) fun _ _ _ _ _ _ us hl => match us, hl with | [_, _, _], _ => rfl⟩
theorem sc_law_mix : FnScope ["number", "k"] ["number", "k"] (defScope s_law_mix) := ⟨rfl, rfl, rfl, by decide +kernel, rfl, by decide +kernel, by decide +kernel⟩
theorem t_law_mix : trSs 60 ⟨["number", "k"], defScope s_law_mix, fun _ => true, [], bs, []⟩ (defBody s_law_mix) = some D_law_mix := by kernel_rfl
theorem e_law_mix {fa : Addr} {fd : FuncData} (F : Fun K "_law_mix" "_law_mix" s_law_mix fa fd) (hm : mg "_law_mix" = some (.ref fa)) (B : BsOk mg)  : Ent P w K mg base 1 "_law_mix" 2 f_law_mix := by
  unfold f_law_mix
  exact ⟨fa, fd, ["number", "k"], fn_tr (k := 0) F sc_law_mix GAll.nil B t_law_mix, hm, F.kp, F.binds (ps := ["number", "k"]) fun _ _ _ _ _ _ us hl => match us, hl with | [_, _], _ => rfl⟩
theorem sc_law_pool : FnScope ["script", "pool", "state", "k", "cell", "turn"] ["script"] (defScope s_law_pool) := ⟨rfl, rfl, rfl, by decide +kernel, rfl, by decide +kernel, by decide +kernel⟩
theorem t_law_pool : trSs 60 ⟨["script", "pool", "state", "k", "cell", "turn"], defScope s_law_pool, fun _ => true, [("_law_mix", 2, f_law_mix)], bs, [(32, 11, 13), (46, 11, 28)]⟩ (defBody s_law_pool) = some D_law_pool := by kernel_rfl
theorem e_law_pool {fa : Addr} {fd : FuncData} (F : Fun K "_law_pool" "_law_pool" s_law_pool fa fd) (hm : mg "_law_pool" = some (.ref fa)) (B : BsOk mg) (h0 : Ent P w K mg base 1 "_law_mix" 2 f_law_mix) : Ent P w K mg base 2 "_law_pool" 1 f_law_pool := by
  unfold f_law_pool
  exact ⟨fa, fd, ["script"], fn_tr (k := 1) F sc_law_pool (GAll.cons (h0.mono (by decide)) GAll.nil) B t_law_pool, hm, F.kp, F.binds (ps := ["script"]) fun _ _ _ _ _ _ us hl => match us, hl with | [_], _ => rfl⟩
theorem sc_law_draw : FnScope ["pool", "limit"] ["pool", "limit"] (defScope s_law_draw) := ⟨rfl, rfl, rfl, by decide +kernel, rfl, by decide +kernel, by decide +kernel⟩
theorem t_law_draw : trSs 60 ⟨["pool", "limit"], defScope s_law_draw, fun _ => true, [("_law_mix", 2, f_law_mix)], bs, []⟩ (defBody s_law_draw) = some D_law_draw := by kernel_rfl
theorem e_law_draw {fa : Addr} {fd : FuncData} (F : Fun K "_law_draw" "_law_draw" s_law_draw fa fd) (hm : mg "_law_draw" = some (.ref fa)) (B : BsOk mg) (h0 : Ent P w K mg base 1 "_law_mix" 2 f_law_mix) : Ent P w K mg base 2 "_law_draw" 2 f_law_draw := by
  unfold f_law_draw
  exact ⟨fa, fd, ["pool", "limit"], fn_tr (k := 1) F sc_law_draw (GAll.cons (h0.mono (by decide)) GAll.nil) B t_law_draw, hm, F.kp, F.binds (ps := ["pool", "limit"]) fun _ _ _ _ _ _ us hl => match us, hl with | [_, _], _ => rfl⟩
theorem sc_law_pick : FnScope ["pool", "rows"] ["pool", "rows"] (defScope s_law_pick) := ⟨rfl, rfl, rfl, by decide +kernel, rfl, by decide +kernel, by decide +kernel⟩
theorem t_law_pick : trSs 60 ⟨["pool", "rows"], defScope s_law_pick, fun _ => true, [("_law_draw", 2, f_law_draw)], bs, []⟩ (defBody s_law_pick) = some D_law_pick := by kernel_rfl
theorem e_law_pick {fa : Addr} {fd : FuncData} (F : Fun K "_law_pick" "_law_pick" s_law_pick fa fd) (hm : mg "_law_pick" = some (.ref fa)) (B : BsOk mg) (h0 : Ent P w K mg base 2 "_law_draw" 2 f_law_draw) : Ent P w K mg base 3 "_law_pick" 2 f_law_pick := by
  unfold f_law_pick
  exact ⟨fa, fd, ["pool", "rows"], fn_tr (k := 2) F sc_law_pick (GAll.cons (h0.mono (by decide)) GAll.nil) B t_law_pick, hm, F.kp, F.binds (ps := ["pool", "rows"]) fun _ _ _ _ _ _ us hl => match us, hl with | [_, _], _ => rfl⟩
theorem sc_law_whole : FnScope ["number"] ["number"] (defScope s_law_whole) := ⟨rfl, rfl, rfl, by decide +kernel, rfl, by decide +kernel, by decide +kernel⟩
theorem t_law_whole : trSs 60 ⟨["number"], defScope s_law_whole, fun _ => true, [], bs, []⟩ (defBody s_law_whole) = some D_law_whole := by kernel_rfl
theorem e_law_whole {fa : Addr} {fd : FuncData} (F : Fun K "_law_whole" "_law_whole" s_law_whole fa fd) (hm : mg "_law_whole" = some (.ref fa)) (B : BsOk mg)  : Ent P w K mg base 1 "_law_whole" 1 f_law_whole := by
  unfold f_law_whole
  exact ⟨fa, fd, ["number"], fn_tr (k := 0) F sc_law_whole GAll.nil B t_law_whole, hm, F.kp, F.binds (ps := ["number"]) fun _ _ _ _ _ _ us hl => match us, hl with | [_], _ => rfl⟩
theorem sc_law_plain : FnScope ["key", "part"] ["key"] (defScope s_law_plain) := ⟨rfl, rfl, rfl, by decide +kernel, rfl, by decide +kernel, by decide +kernel⟩
theorem t_law_plain (S : FSem) : trSs 60 ⟨["key", "part"], defScope s_law_plain, fun _ => true, [("_law_whole", 1, f_law_whole), ("_law_plain", 1, S)], bs, []⟩ (defBody s_law_plain) = some (D_law_plain S) := by kernel_rfl
theorem er_law_plain {fa : Addr} {fd : FuncData} (F : Fun K "_law_plain" "_law_plain" s_law_plain fa fd) (hm : mg "_law_plain" = some (.ref fa)) (B : BsOk mg) (h0 : Ent P w K mg base 1 "_law_whole" 1 f_law_whole) : ∀ n : Nat, Ent P w K mg base (1 + n) "_law_plain" 1 (r_law_plain n)
  | 0 => ⟨fa, fd, ["key"], (fn_no (ps := ["key"])).mono (Nat.zero_le _), hm, F.kp, F.binds (ps := ["key"]) fun _ _ _ _ _ _ us hl => match us, hl with | [_], _ => rfl⟩
  | n + 1 => ⟨fa, fd, ["key"], fn_tr (k := 1 + n) F sc_law_plain (GAll.cons (h0.mono (by omega)) (GAll.cons (er_law_plain F hm B h0 n) GAll.nil)) B (t_law_plain (r_law_plain n)), hm, F.kp, F.binds (ps := ["key"]) fun _ _ _ _ _ _ us hl => match us, hl with | [_], _ => rfl⟩
theorem e_law_plain {fa : Addr} {fd : FuncData} (F : Fun K "_law_plain" "_law_plain" s_law_plain fa fd) (hm : mg "_law_plain" = some (.ref fa)) (B : BsOk mg) (h0 : Ent P w K mg base 1 "_law_whole" 1 f_law_whole) (n : Nat) : Ent P w K mg base (1 + n) "_law_plain" 1 (f_law_plain n) := by
  unfold f_law_plain
  exact er_law_plain F hm B h0 n
theorem sc_law_same : FnScope ["told", "due", "key", "k"] ["told", "due"] (defScope s_law_same) := ⟨rfl, rfl, rfl, by decide +kernel, rfl, by decide +kernel, by decide +kernel⟩
theorem t_law_same (S : FSem) : trSs 60 ⟨["told", "due", "key", "k"], defScope s_law_same, fun _ => true, [("_law_whole", 1, f_law_whole), ("_law_same", 2, S), ("_law_plain", 1, (f_law_plain 6))], bs, []⟩ (defBody s_law_same) = some (D_law_same S) := by kernel_rfl
theorem er_law_same {fa : Addr} {fd : FuncData} (F : Fun K "_law_same" "_law_same" s_law_same fa fd) (hm : mg "_law_same" = some (.ref fa)) (B : BsOk mg) (h0 : Ent P w K mg base 1 "_law_whole" 1 f_law_whole) (h1 : Ent P w K mg base 7 "_law_plain" 1 (f_law_plain 6)) : ∀ n : Nat, Ent P w K mg base (7 + n) "_law_same" 2 (r_law_same n)
  | 0 => ⟨fa, fd, ["told", "due"], (fn_no (ps := ["told", "due"])).mono (Nat.zero_le _), hm, F.kp, F.binds (ps := ["told", "due"]) fun _ _ _ _ _ _ us hl => match us, hl with | [_, _], _ => rfl⟩
  | n + 1 => ⟨fa, fd, ["told", "due"], fn_tr (k := 7 + n) F sc_law_same (GAll.cons (h0.mono (by omega)) (GAll.cons (er_law_same F hm B h0 h1 n) (GAll.cons (h1.mono (by omega)) GAll.nil))) B (t_law_same (r_law_same n)), hm, F.kp, F.binds (ps := ["told", "due"]) fun _ _ _ _ _ _ us hl => match us, hl with | [_, _], _ => rfl⟩
theorem e_law_same {fa : Addr} {fd : FuncData} (F : Fun K "_law_same" "_law_same" s_law_same fa fd) (hm : mg "_law_same" = some (.ref fa)) (B : BsOk mg) (h0 : Ent P w K mg base 1 "_law_whole" 1 f_law_whole) (h1 : Ent P w K mg base 7 "_law_plain" 1 (f_law_plain 6)) (n : Nat) : Ent P w K mg base (7 + n) "_law_same" 2 (f_law_same n) := by
  unfold f_law_same
  exact er_law_same F hm B h0 h1 n
theorem sc_law_leq : FnScope ["one", "two", "k"] ["one", "two"] (defScope s_law_leq) := ⟨rfl, rfl, rfl, by decide +kernel, rfl, by decide +kernel, by decide +kernel⟩
theorem t_law_leq : trSs 60 ⟨["one", "two", "k"], defScope s_law_leq, fun _ => true, [], bs, []⟩ (defBody s_law_leq) = some D_law_leq := by kernel_rfl
theorem e_law_leq {fa : Addr} {fd : FuncData} (F : Fun K "_law_leq" "_law_leq" s_law_leq fa fd) (hm : mg "_law_leq" = some (.ref fa)) (B : BsOk mg)  : Ent P w K mg base 1 "_law_leq" 2 f_law_leq := by
  unfold f_law_leq
  exact ⟨fa, fd, ["one", "two"], fn_tr (k := 0) F sc_law_leq GAll.nil B t_law_leq, hm, F.kp, F.binds (ps := ["one", "two"]) fun _ _ _ _ _ _ us hl => match us, hl with | [_, _], _ => rfl⟩
theorem sc_law_join : FnScope ["one", "two", "k"] ["one", "two"] (defScope s_law_join) := ⟨rfl, rfl, rfl, by decide +kernel, rfl, by decide +kernel, by decide +kernel⟩
theorem t_law_join : trSs 60 ⟨["one", "two", "k"], defScope s_law_join, fun _ => true, [], bs, []⟩ (defBody s_law_join) = some D_law_join := by kernel_rfl
theorem e_law_join {fa : Addr} {fd : FuncData} (F : Fun K "_law_join" "_law_join" s_law_join fa fd) (hm : mg "_law_join" = some (.ref fa)) (B : BsOk mg)  : Ent P w K mg base 1 "_law_join" 2 f_law_join := by
  unfold f_law_join
  exact ⟨fa, fd, ["one", "two"], fn_tr (k := 0) F sc_law_join GAll.nil B t_law_join, hm, F.kp, F.binds (ps := ["one", "two"]) fun _ _ _ _ _ _ us hl => match us, hl with | [_, _], _ => rfl⟩
theorem sc_law_moment : FnScope ["pool", "size", "span", "k"] ["pool", "size", "span"] (defScope s_law_moment) := ⟨rfl, rfl, rfl, by decide +kernel, rfl, by decide +kernel, by decide +kernel⟩
theorem t_law_moment : trSs 60 ⟨["pool", "size", "span", "k"], defScope s_law_moment, fun _ => true, [("_law_draw", 2, f_law_draw)], bs, []⟩ (defBody s_law_moment) = some D_law_moment := by kernel_rfl
theorem e_law_moment {fa : Addr} {fd : FuncData} (F : Fun K "_law_moment" "_law_moment" s_law_moment fa fd) (hm : mg "_law_moment" = some (.ref fa)) (B : BsOk mg) (h0 : Ent P w K mg base 2 "_law_draw" 2 f_law_draw) : Ent P w K mg base 3 "_law_moment" 3 f_law_moment := by
  unfold f_law_moment
  exact ⟨fa, fd, ["pool", "size", "span"], fn_tr (k := 2) F sc_law_moment (GAll.cons (h0.mono (by decide)) GAll.nil) B t_law_moment, hm, F.kp, F.binds (ps := ["pool", "size", "span"]) fun _ _ _ _ _ _ us hl => match us, hl with | [_, _, _], _ => rfl⟩
theorem sc_law_fresh : FnScope ["pool", "shape", "count"] ["pool", "shape"] (defScope s_law_fresh) := ⟨rfl, rfl, rfl, by decide +kernel, rfl, by decide +kernel, by decide +kernel⟩
theorem t_law_fresh : trSs 60 ⟨["pool", "shape", "count"], defScope s_law_fresh, fun _ => true, [("_law_pick", 2, f_law_pick), ("_law_moment", 3, f_law_moment), ("_law_draw", 2, f_law_draw)], bs, []⟩ (defBody s_law_fresh) = some D_law_fresh := by kernel_rfl
theorem e_law_fresh {fa : Addr} {fd : FuncData} (F : Fun K "_law_fresh" "_law_fresh" s_law_fresh fa fd) (hm : mg "_law_fresh" = some (.ref fa)) (B : BsOk mg) (h0 : Ent P w K mg base 3 "_law_pick" 2 f_law_pick) (h1 : Ent P w K mg base 3 "_law_moment" 3 f_law_moment) (h2 : Ent P w K mg base 2 "_law_draw" 2 f_law_draw) : Ent P w K mg base 4 "_law_fresh" 2 f_law_fresh := by
  unfold f_law_fresh
  exact ⟨fa, fd, ["pool", "shape"], fn_tr (k := 3) F sc_law_fresh (GAll.cons (h0.mono (by decide)) (GAll.cons (h1.mono (by decide)) (GAll.cons (h2.mono (by decide)) GAll.nil))) B t_law_fresh, hm, F.kp, F.binds (ps := ["pool", "shape"]) fun _ _ _ _ _ _ us hl => match us, hl with | [_, _], _ => rfl⟩
theorem sc_law_changes : FnScope ["pool", "shape", "many", "changes", "k", "fresh", "way", "old"] ["pool", "shape", "many"] (defScope s_law_changes) := ⟨rfl, rfl, rfl, by decide +kernel, rfl, by decide +kernel, by decide +kernel⟩
theorem t_law_changes : trSs 60 ⟨["pool", "shape", "many", "changes", "k", "fresh", "way", "old"], defScope s_law_changes, fun _ => true, [("_law_fresh", 2, f_law_fresh), ("_law_draw", 2, f_law_draw), ("_law_pick", 2, f_law_pick)], bs, [(94, 14, 16)]⟩ (defBody s_law_changes) = some D_law_changes := by kernel_rfl
theorem e_law_changes {fa : Addr} {fd : FuncData} (F : Fun K "_law_changes" "_law_changes" s_law_changes fa fd) (hm : mg "_law_changes" = some (.ref fa)) (B : BsOk mg) (h0 : Ent P w K mg base 4 "_law_fresh" 2 f_law_fresh) (h1 : Ent P w K mg base 2 "_law_draw" 2 f_law_draw) (h2 : Ent P w K mg base 3 "_law_pick" 2 f_law_pick) : Ent P w K mg base 5 "_law_changes" 3 f_law_changes := by
  unfold f_law_changes
  exact ⟨fa, fd, ["pool", "shape", "many"], fn_tr (k := 4) F sc_law_changes (GAll.cons (h0.mono (by decide)) (GAll.cons (h1.mono (by decide)) (GAll.cons (h2.mono (by decide)) GAll.nil))) B t_law_changes, hm, F.kp, F.binds (ps := ["pool", "shape", "many"]) fun _ _ _ _ _ _ us hl => match us, hl with | [_, _, _], _ => rfl⟩
theorem sc_law_beside : FnScope ["pool", "time", "floor", "k"] ["pool", "time", "floor"] (defScope s_law_beside) := ⟨rfl, rfl, rfl, by decide +kernel, rfl, by decide +kernel, by decide +kernel⟩
theorem t_law_beside : trSs 60 ⟨["pool", "time", "floor", "k"], defScope s_law_beside, fun _ => true, [("_law_draw", 2, f_law_draw)], bs, []⟩ (defBody s_law_beside) = some D_law_beside := by kernel_rfl
theorem e_law_beside {fa : Addr} {fd : FuncData} (F : Fun K "_law_beside" "_law_beside" s_law_beside fa fd) (hm : mg "_law_beside" = some (.ref fa)) (B : BsOk mg) (h0 : Ent P w K mg base 2 "_law_draw" 2 f_law_draw) : Ent P w K mg base 3 "_law_beside" 3 f_law_beside := by
  unfold f_law_beside
  exact ⟨fa, fd, ["pool", "time", "floor"], fn_tr (k := 2) F sc_law_beside (GAll.cons (h0.mono (by decide)) GAll.nil) B t_law_beside, hm, F.kp, F.binds (ps := ["pool", "time", "floor"]) fun _ _ _ _ _ _ us hl => match us, hl with | [_, _, _], _ => rfl⟩
theorem sc_law_detour : FnScope ["pool", "changes", "floor", "shape", "rows", "change", "part", "k", "fresh", "at"] ["pool", "changes", "floor", "shape"] (defScope s_law_detour) := ⟨rfl, rfl, rfl, by decide +kernel, rfl, by decide +kernel, by decide +kernel⟩
theorem t_law_detour : trSs 60 ⟨["pool", "changes", "floor", "shape", "rows", "change", "part", "k", "fresh", "at"], defScope s_law_detour, fun _ => true, [("_law_draw", 2, f_law_draw), ("_law_fresh", 2, f_law_fresh), ("_law_beside", 3, f_law_beside)], bs, [(106, 11, 13)]⟩ (defBody s_law_detour) = some D_law_detour := by kernel_rfl
theorem e_law_detour {fa : Addr} {fd : FuncData} (F : Fun K "_law_detour" "_law_detour" s_law_detour fa fd) (hm : mg "_law_detour" = some (.ref fa)) (B : BsOk mg) (h0 : Ent P w K mg base 2 "_law_draw" 2 f_law_draw) (h1 : Ent P w K mg base 4 "_law_fresh" 2 f_law_fresh) (h2 : Ent P w K mg base 3 "_law_beside" 3 f_law_beside) : Ent P w K mg base 5 "_law_detour" 4 f_law_detour := by
  unfold f_law_detour
  exact ⟨fa, fd, ["pool", "changes", "floor", "shape"], fn_tr (k := 4) F sc_law_detour (GAll.cons (h0.mono (by decide)) (GAll.cons (h1.mono (by decide)) (GAll.cons (h2.mono (by decide)) GAll.nil))) B t_law_detour, hm, F.kp, F.binds (ps := ["pool", "changes", "floor", "shape"]) fun _ _ _ _ _ _ us hl => match us, hl with | [_, _, _, _], _ => rfl⟩
theorem sc_law_bent : FnScope ["pool", "rows", "floor", "shape", "way", "fresh", "bent", "at", "one", "k"] ["pool", "rows", "floor", "shape"] (defScope s_law_bent) := ⟨rfl, rfl, rfl, by decide +kernel, rfl, by decide +kernel, by decide +kernel⟩
theorem t_law_bent : trSs 60 ⟨["pool", "rows", "floor", "shape", "way", "fresh", "bent", "at", "one", "k"], defScope s_law_bent, fun _ => true, [("_law_draw", 2, f_law_draw), ("_law_fresh", 2, f_law_fresh), ("_law_join", 2, f_law_join), ("_law_pick", 2, f_law_pick)], bs, [(121, 11, 21)]⟩ (defBody s_law_bent) = some D_law_bent := by kernel_rfl
theorem e_law_bent {fa : Addr} {fd : FuncData} (F : Fun K "_law_bent" "_law_bent" s_law_bent fa fd) (hm : mg "_law_bent" = some (.ref fa)) (B : BsOk mg) (h0 : Ent P w K mg base 2 "_law_draw" 2 f_law_draw) (h1 : Ent P w K mg base 4 "_law_fresh" 2 f_law_fresh) (h2 : Ent P w K mg base 1 "_law_join" 2 f_law_join) (h3 : Ent P w K mg base 3 "_law_pick" 2 f_law_pick) : Ent P w K mg base 5 "_law_bent" 4 f_law_bent := by
  unfold f_law_bent
  exact ⟨fa, fd, ["pool", "rows", "floor", "shape"], fn_tr (k := 4) F sc_law_bent (GAll.cons (h0.mono (by decide)) (GAll.cons (h1.mono (by decide)) (GAll.cons (h2.mono (by decide)) (GAll.cons (h3.mono (by decide)) GAll.nil)))) B t_law_bent, hm, F.kp, F.binds (ps := ["pool", "rows", "floor", "shape"]) fun _ _ _ _ _ _ us hl => match us, hl with | [_, _, _, _], _ => rfl⟩
theorem sc_law_tidied : FnScope ["changes", "made", "key", "change", "total"] ["changes"] (defScope s_law_tidied) := ⟨rfl, rfl, rfl, by decide +kernel, rfl, by decide +kernel, by decide +kernel⟩
theorem t_law_tidied : trSs 60 ⟨["changes", "made", "key", "change", "total"], defScope s_law_tidied, fun _ => true, [], bs, [(141, 11, 13)]⟩ (defBody s_law_tidied) = some D_law_tidied := by kernel_rfl
theorem e_law_tidied {fa : Addr} {fd : FuncData} (F : Fun K "_law_tidied" "_law_tidied" s_law_tidied fa fd) (hm : mg "_law_tidied" = some (.ref fa)) (B : BsOk mg)  : Ent P w K mg base 1 "_law_tidied" 1 f_law_tidied := by
  unfold f_law_tidied
  exact ⟨fa, fd, ["changes"], fn_tr (k := 0) F sc_law_tidied GAll.nil B t_law_tidied, hm, F.kp, F.binds (ps := ["changes"]) fun _ _ _ _ _ _ us hl => match us, hl with | [_], _ => rfl⟩
theorem sc_law_moved : FnScope ["changes", "floor", "change"] ["changes", "floor"] (defScope s_law_moved) := ⟨rfl, rfl, rfl, by decide +kernel, rfl, by decide +kernel, by decide +kernel⟩
theorem t_law_moved : trSs 60 ⟨["changes", "floor", "change"], defScope s_law_moved, fun _ => true, [("_law_tidied", 1, f_law_tidied), ("_law_join", 2, f_law_join)], bs, []⟩ (defBody s_law_moved) = some D_law_moved := by kernel_rfl
theorem e_law_moved {fa : Addr} {fd : FuncData} (F : Fun K "_law_moved" "_law_moved" s_law_moved fa fd) (hm : mg "_law_moved" = some (.ref fa)) (B : BsOk mg) (h0 : Ent P w K mg base 1 "_law_tidied" 1 f_law_tidied) (h1 : Ent P w K mg base 1 "_law_join" 2 f_law_join) : Ent P w K mg base 2 "_law_moved" 2 f_law_moved := by
  unfold f_law_moved
  exact ⟨fa, fd, ["changes", "floor"], fn_tr (k := 1) F sc_law_moved (GAll.cons (h0.mono (by decide)) (GAll.cons (h1.mono (by decide)) GAll.nil)) B t_law_moved, hm, F.kp, F.binds (ps := ["changes", "floor"]) fun _ _ _ _ _ _ us hl => match us, hl with | [_, _], _ => rfl⟩
theorem sc_law_seen : FnScope ["changes", "time", "bag", "change", "record"] ["changes", "time"] (defScope s_law_seen) := ⟨rfl, rfl, rfl, by decide +kernel, rfl, by decide +kernel, by decide +kernel⟩
theorem t_law_seen : trSs 60 ⟨["changes", "time", "bag", "change", "record"], defScope s_law_seen, fun _ => true, [("_law_leq", 2, f_law_leq)], bs, [(150, 10, 12)]⟩ (defBody s_law_seen) = some D_law_seen := by kernel_rfl
theorem e_law_seen {fa : Addr} {fd : FuncData} (F : Fun K "_law_seen" "_law_seen" s_law_seen fa fd) (hm : mg "_law_seen" = some (.ref fa)) (B : BsOk mg) (h0 : Ent P w K mg base 1 "_law_leq" 2 f_law_leq) : Ent P w K mg base 2 "_law_seen" 2 f_law_seen := by
  unfold f_law_seen
  exact ⟨fa, fd, ["changes", "time"], fn_tr (k := 1) F sc_law_seen (GAll.cons (h0.mono (by decide)) GAll.nil) B t_law_seen, hm, F.kp, F.binds (ps := ["changes", "time"]) fun _ _ _ _ _ _ us hl => match us, hl with | [_, _], _ => rfl⟩
theorem sc_law_agree : FnScope ["first", "second", "floor", "change", "time"] ["first", "second", "floor"] (defScope s_law_agree) := ⟨rfl, rfl, rfl, by decide +kernel, rfl, by decide +kernel, by decide +kernel⟩
theorem t_law_agree : trSs 60 ⟨["first", "second", "floor", "change", "time"], defScope s_law_agree, fun _ => true, [("_law_join", 2, f_law_join), ("_law_seen", 2, f_law_seen)], bs, []⟩ (defBody s_law_agree) = some D_law_agree := by kernel_rfl
theorem e_law_agree {fa : Addr} {fd : FuncData} (F : Fun K "_law_agree" "_law_agree" s_law_agree fa fd) (hm : mg "_law_agree" = some (.ref fa)) (B : BsOk mg) (h0 : Ent P w K mg base 1 "_law_join" 2 f_law_join) (h1 : Ent P w K mg base 2 "_law_seen" 2 f_law_seen) : Ent P w K mg base 3 "_law_agree" 3 f_law_agree := by
  unfold f_law_agree
  exact ⟨fa, fd, ["first", "second", "floor"], fn_tr (k := 2) F sc_law_agree (GAll.cons (h0.mono (by decide)) (GAll.cons (h1.mono (by decide)) GAll.nil)) B t_law_agree, hm, F.kp, F.binds (ps := ["first", "second", "floor"]) fun _ _ _ _ _ _ us hl => match us, hl with | [_, _, _], _ => rfl⟩
theorem sc_law_small : FnScope ["changes", "floor", "k"] ["changes", "floor"] (defScope s_law_small) := ⟨rfl, rfl, rfl, by decide +kernel, rfl, by decide +kernel, by decide +kernel⟩
theorem t_law_small : trSs 60 ⟨["changes", "floor", "k"], defScope s_law_small, fun _ => true, [("_law_leq", 2, f_law_leq)], bs, []⟩ (defBody s_law_small) = some D_law_small := by kernel_rfl
theorem e_law_small {fa : Addr} {fd : FuncData} (F : Fun K "_law_small" "_law_small" s_law_small fa fd) (hm : mg "_law_small" = some (.ref fa)) (B : BsOk mg) (h0 : Ent P w K mg base 1 "_law_leq" 2 f_law_leq) : Ent P w K mg base 2 "_law_small" 2 f_law_small := by
  unfold f_law_small
  exact ⟨fa, fd, ["changes", "floor"], fn_tr (k := 1) F sc_law_small (GAll.cons (h0.mono (by decide)) GAll.nil) B t_law_small, hm, F.kp, F.binds (ps := ["changes", "floor"]) fun _ _ _ _ _ _ us hl => match us, hl with | [_, _], _ => rfl⟩
theorem sc_law_ordered : FnScope ["rows", "key", "row"] ["rows"] (defScope s_law_ordered) := ⟨rfl, rfl, rfl, by decide +kernel, rfl, by decide +kernel, by decide +kernel⟩
theorem t_law_ordered : trSs 60 ⟨["rows", "key", "row"], defScope s_law_ordered, fun _ => true, [], bs, []⟩ (defBody s_law_ordered) = some D_law_ordered := by kernel_rfl
theorem e_law_ordered {fa : Addr} {fd : FuncData} (F : Fun K "_law_ordered" "_law_ordered" s_law_ordered fa fd) (hm : mg "_law_ordered" = some (.ref fa)) (B : BsOk mg)  : Ent P w K mg base 1 "_law_ordered" 1 f_law_ordered := by
  unfold f_law_ordered
  exact ⟨fa, fd, ["rows"], fn_tr (k := 0) F sc_law_ordered GAll.nil B t_law_ordered, hm, F.kp, F.binds (ps := ["rows"]) fun _ _ _ _ _ _ us hl => match us, hl with | [_], _ => rfl⟩
theorem sc_law_spoilt : FnScope ["pool", "rows", "floor", "shape", "fresh", "lists", "k", "low", "at", "one"] ["pool", "rows", "floor", "shape"] (defScope s_law_spoilt) := ⟨rfl, rfl, rfl, by decide +kernel, rfl, by decide +kernel, by decide +kernel⟩
theorem t_law_spoilt : trSs 60 ⟨["pool", "rows", "floor", "shape", "fresh", "lists", "k", "low", "at", "one"], defScope s_law_spoilt, fun _ => true, [("_law_fresh", 2, f_law_fresh), ("_law_draw", 2, f_law_draw), ("_law_ordered", 1, f_law_ordered), ("_law_join", 2, f_law_join)], bs, [(172, 12, 88)]⟩ (defBody s_law_spoilt) = some D_law_spoilt := by kernel_rfl
theorem e_law_spoilt {fa : Addr} {fd : FuncData} (F : Fun K "_law_spoilt" "_law_spoilt" s_law_spoilt fa fd) (hm : mg "_law_spoilt" = some (.ref fa)) (B : BsOk mg) (h0 : Ent P w K mg base 4 "_law_fresh" 2 f_law_fresh) (h1 : Ent P w K mg base 2 "_law_draw" 2 f_law_draw) (h2 : Ent P w K mg base 1 "_law_ordered" 1 f_law_ordered) (h3 : Ent P w K mg base 1 "_law_join" 2 f_law_join) : Ent P w K mg base 5 "_law_spoilt" 4 f_law_spoilt := by
  unfold f_law_spoilt
  exact ⟨fa, fd, ["pool", "rows", "floor", "shape"], fn_tr (k := 4) F sc_law_spoilt (GAll.cons (h0.mono (by decide)) (GAll.cons (h1.mono (by decide)) (GAll.cons (h2.mono (by decide)) (GAll.cons (h3.mono (by decide)) GAll.nil)))) B t_law_spoilt, hm, F.kp, F.binds (ps := ["pool", "rows", "floor", "shape"]) fun _ _ _ _ _ _ us hl => match us, hl with | [_, _, _, _], _ => rfl⟩
theorem sc_law_alike_right : FnScope ["first", "second", "floor", "due", "one", "two"] ["first", "second", "floor", "due"] (defScope s_law_alike_right) := ⟨rfl, rfl, rfl, by decide +kernel, rfl, by decide +kernel, by decide +kernel⟩
theorem t_law_alike_right : trSs 60 ⟨["first", "second", "floor", "due", "one", "two"], defScope s_law_alike_right, fun _ => true, [("_law_same", 2, (f_law_same 6)), ("answers_alike", 3, f_answers_alike)], bs, []⟩ (defBody s_law_alike_right) = some D_law_alike_right := by kernel_rfl
theorem e_law_alike_right {fa : Addr} {fd : FuncData} (F : Fun K "_law_alike_right" "_law_alike_right" s_law_alike_right fa fd) (hm : mg "_law_alike_right" = some (.ref fa)) (B : BsOk mg) (h0 : Ent P w K mg base 13 "_law_same" 2 (f_law_same 6)) (h1 : Ent P w K mg base 3 "answers_alike" 3 f_answers_alike) : Ent P w K mg base 14 "_law_alike_right" 4 f_law_alike_right := by
  unfold f_law_alike_right
  exact ⟨fa, fd, ["first", "second", "floor", "due"], fn_tr (k := 13) F sc_law_alike_right (GAll.cons (h0.mono (by decide)) (GAll.cons (h1.mono (by decide)) GAll.nil)) B t_law_alike_right, hm, F.kp, F.binds (ps := ["first", "second", "floor", "due"]) fun _ _ _ _ _ _ us hl => match us, hl with | [_, _, _, _], _ => rfl⟩
theorem sc_law : FnScope ["script", "pool", "span", "shape", "many", "first", "floor", "way", "second", "due", "agreed", "extra", "longer", "rows", "told", "handed"] ["script"] (defScope s_law) := ⟨rfl, rfl, rfl, by decide +kernel, rfl, by decide +kernel, by decide +kernel⟩
theorem t_law : trSs 60 ⟨["script", "pool", "span", "shape", "many", "first", "floor", "way", "second", "due", "agreed", "extra", "longer", "rows", "told", "handed"], defScope s_law, fun _ => true, [("_law_pool", 1, f_law_pool), ("_law_pick", 2, f_law_pick), ("_law_draw", 2, f_law_draw), ("_law_changes", 3, f_law_changes), ("_law_moment", 3, f_law_moment), ("_law_detour", 4, f_law_detour), ("_law_moved", 2, f_law_moved), ("_law_agree", 3, f_law_agree), ("_law_fresh", 2, f_law_fresh), ("_law_spoilt", 4, f_law_spoilt), ("_law_bent", 4, f_law_bent), ("_law_alike_right", 4, f_law_alike_right), ("redate", 2, f_redate), ("_law_same", 2, (f_law_same 6)), ("_law_tidied", 1, f_law_tidied), ("is_small", 2, f_is_small), ("_law_small", 2, f_law_small)], bs, [(193, 11, 28)]⟩ (defBody s_law) = some D_law := by kernel_rfl
theorem e_law {fa : Addr} {fd : FuncData} (F : Fun K "law" "law" s_law fa fd) (hm : mg "law" = some (.ref fa)) (B : BsOk mg) (h0 : Ent P w K mg base 2 "_law_pool" 1 f_law_pool) (h1 : Ent P w K mg base 3 "_law_pick" 2 f_law_pick) (h2 : Ent P w K mg base 2 "_law_draw" 2 f_law_draw) (h3 : Ent P w K mg base 5 "_law_changes" 3 f_law_changes) (h4 : Ent P w K mg base 3 "_law_moment" 3 f_law_moment) (h5 : Ent P w K mg base 5 "_law_detour" 4 f_law_detour) (h6 : Ent P w K mg base 2 "_law_moved" 2 f_law_moved) (h7 : Ent P w K mg base 3 "_law_agree" 3 f_law_agree) (h8 : Ent P w K mg base 4 "_law_fresh" 2 f_law_fresh) (h9 : Ent P w K mg base 5 "_law_spoilt" 4 f_law_spoilt) (h10 : Ent P w K mg base 5 "_law_bent" 4 f_law_bent) (h11 : Ent P w K mg base 14 "_law_alike_right" 4 f_law_alike_right) (h12 : Ent P w K mg base 2 "redate" 2 f_redate) (h13 : Ent P w K mg base 13 "_law_same" 2 (f_law_same 6)) (h14 : Ent P w K mg base 1 "_law_tidied" 1 f_law_tidied) (h15 : Ent P w K mg base 2 "is_small" 2 f_is_small) (h16 : Ent P w K mg base 2 "_law_small" 2 f_law_small) : Ent P w K mg base 15 "law" 1 f_law := by
  unfold f_law
  exact ⟨fa, fd, ["script"], fn_tr (k := 14) F sc_law (GAll.cons (h0.mono (by decide)) (GAll.cons (h1.mono (by decide)) (GAll.cons (h2.mono (by decide)) (GAll.cons (h3.mono (by decide)) (GAll.cons (h4.mono (by decide)) (GAll.cons (h5.mono (by decide)) (GAll.cons (h6.mono (by decide)) (GAll.cons (h7.mono (by decide)) (GAll.cons (h8.mono (by decide)) (GAll.cons (h9.mono (by decide)) (GAll.cons (h10.mono (by decide)) (GAll.cons (h11.mono (by decide)) (GAll.cons (h12.mono (by decide)) (GAll.cons (h13.mono (by decide)) (GAll.cons (h14.mono (by decide)) (GAll.cons (h15.mono (by decide)) (GAll.cons (h16.mono (by decide)) GAll.nil))))))))))))))))) B t_law, hm, F.kp, F.binds (ps := ["script"]) fun _ _ _ _ _ _ us hl => match us, hl with | [_], _ => rfl⟩
end
end DL

namespace DL
open PySem L2
/-! C0: what the laws share: tuples of ints, orders, draws (pasted behind the terms of a law). -/
local macro_rules | `(tactic| walk_at "go") => `(tactic| repeat (first | refine wp_mb ?_ | with_reducible refine wp_mul (by first | assumption | (exact okMul_iff.mpr (by omega))) ?_ | with_reducible refine wp_mod (by first | assumption | (exact okMod_iff.mpr (by omega))) ?_ | with_reducible refine wp_div (by first | assumption | (exact okDiv_iff.mpr (by omega))) ?_ | with_reducible refine wp_pow (by first | assumption | (exact okPow_iff.mpr (by decide))) ?_ | ((with_reducible refine wp_set ?_ ?_ ?_); (focus rfl); (focus first | exact tT_lb | exact lb_int _ _ | exact lb_bl _ _ | exact lb_non _ | assumption)) | refine wp_eq rfl ?_))

/-! ### plain lists -/
def leqB : List Int → List Int → Bool
  | [], [] => true
  | x :: a, y :: b => decide (x ≤ y) && leqB a b
  | _, _ => false
theorem leqB_len : ∀ {a b : List Int}, a.length ≠ b.length → leqB a b = false
  | [], [], h => absurd rfl h
  | [], _ :: _, _ => rfl
  | _ :: _, [], _ => rfl
  | x :: a, y :: b, h => by
    rw [leqB, leqB_len (a := a) (b := b) (fun e => h (by rw [List.length_cons, List.length_cons, e])), Bool.and_false]
theorem leqB_drop {a b : List Int} {k : Nat} (ha : k < a.length) (hb : k < b.length) : leqB (a.drop k) (b.drop k) = (decide (a[k] ≤ b[k]) && leqB (a.drop (k + 1)) (b.drop (k + 1))) := by
  rw [List.drop_eq_getElem_cons ha, List.drop_eq_getElem_cons hb, leqB]
def lubL (a b : List Int) : List Int := List.zipWith max a b
def glbL (a b : List Int) : List Int := List.zipWith min a b
theorem lubL_len {a b : List Int} (h : a.length = b.length) : (lubL a b).length = a.length := by unfold lubL; rw [List.length_zipWith, h, Nat.min_self]
theorem glbL_len {a b : List Int} (h : a.length = b.length) : (glbL a b).length = a.length := by unfold glbL; rw [List.length_zipWith, h, Nat.min_self]
theorem leqB_lub : ∀ {a b t : List Int}, a.length = b.length → leqB (lubL a b) t = (leqB a t && leqB b t)
  | [], [], [], _ => rfl
  | [], [], _ :: _, _ => rfl
  | x :: a, y :: b, [], _ => rfl
  | x :: a, y :: b, z :: t, h => by
    show (decide (max x y ≤ z) && leqB (lubL a b) t) = ((decide (x ≤ z) && leqB a t) && (decide (y ≤ z) && leqB b t))
    rw [leqB_lub (a := a) (b := b) (t := t) (by simpa using h)]
    have e : decide (max x y ≤ z) = (decide (x ≤ z) && decide (y ≤ z)) := by
      rw [Bool.eq_iff_iff, Bool.and_eq_true, decide_eq_true_iff, decide_eq_true_iff, decide_eq_true_iff]
      omega
    rw [e]
    cases decide (x ≤ z) <;> cases decide (y ≤ z) <;> cases leqB a t <;> rfl
theorem leqB_glb : ∀ {t a b : List Int}, a.length = b.length → leqB t (glbL a b) = (leqB t a && leqB t b)
  | [], [], [], _ => rfl
  | _ :: _, [], [], _ => rfl
  | [], x :: a, y :: b, _ => rfl
  | z :: t, x :: a, y :: b, h => by
    show (decide (z ≤ min x y) && leqB t (glbL a b)) = ((decide (z ≤ x) && leqB t a) && (decide (z ≤ y) && leqB t b))
    rw [leqB_glb (a := a) (b := b) (t := t) (by simpa using h)]
    have e : decide (z ≤ min x y) = (decide (z ≤ x) && decide (z ≤ y)) := by
      rw [Bool.eq_iff_iff, Bool.and_eq_true, decide_eq_true_iff, decide_eq_true_iff, decide_eq_true_iff]
      omega
    rw [e]
    cases decide (z ≤ x) <;> cases decide (z ≤ y) <;> cases leqB t a <;> rfl

/-! ### pieces over tuples of ints -/
theorem eqv_int (x y : Int) : (PyData.int x).eqv (PyData.int y) = (x == y) := by rw [PyData.eqv]
theorem tup_ix {a : List Int} {k : Nat} (h : k < a.length) {st : Sto} : opIx (tT a) (.int ((0 : Int) + (k : Int))) st = some (.int a[k], st) := by
  show (atI (a.map PV.int) ((0 : Int) + (k : Int))).map (fun v => (v, st)) = _
  rw [Int.zero_add, atI_nat (j := k) (v := .int a[k]) (by rw [List.getElem?_map, List.getElem?_eq_getElem h]; rfl)]
  rfl
theorem rng_get {n k : Nat} {x : PV} (h : (rng 0 (n : Int))[k]? = some x) : k < n ∧ x = .int ((0 : Int) + (k : Int)) := by
  unfold rng at h
  rw [Int.sub_zero, Int.toNat_natCast, List.getElem?_map] at h
  by_cases q : k < n
  · rw [List.getElem?_range q] at h
    cases h
    exact ⟨q, rfl⟩
  · rw [List.getElem?_eq_none (by rw [List.length_range]; omega)] at h
    cases h
theorem rng_len {n : Nat} : (rng 0 (n : Int)).length = n := by
  unfold rng
  rw [Int.sub_zero, Int.toNat_natCast, List.length_map, List.length_range]
theorem okR {n : Nat} (h : n ≤ 1000000) : okRng (n : Int) = true := okRng_iff.mpr ⟨by omega, by omega⟩
theorem okL {n : Nat} (h : n ≤ 1000000) : n ≤ sizeLine := Nat.le_trans h (by decide)
theorem max_if (i j : Int) : (if j > i then j else i) = max i j := by
  by_cases h : j > i
  · rw [if_pos h]; omega
  · rw [if_neg h]; omega
theorem min_if (i j : Int) : (if j < i then j else i) = min i j := by
  by_cases h : j < i
  · rw [if_pos h]; omega
  · rw [if_neg h]; omega
theorem mkT_eq {xs : List PV} {st : Sto} (h : xs.length ≤ sizeLine) : mkT xs st = some (.tup xs, st) := if_pos h
theorem mkV_eq {xs : List PV} {st : Sto} (h : xs.length ≤ sizeLine) : mkL false xs st = some (.lst xs, st) := by
  unfold mkL
  rw [if_pos h, if_neg (by decide)]
theorem mkM_eq {xs : List PV} {st : Sto} (h : xs.length ≤ sizeLine) (hb : lbs st.nxt xs = true) : mkL true xs st = some (.loc st.nxt, st.alloc (.lst xs)) := by
  unfold mkL
  rw [if_pos h, if_pos rfl, if_pos hb]
theorem sort2 (x y : Int) : sortI [x, y] = [min x y, max x y] := by
  refine (sortI_uniq (ns := [x, y]) ?_ ?_).symm
  · by_cases h : x ≤ y
    · rw [Int.min_eq_left h, Int.max_eq_right h]
    · rw [Int.min_eq_right (by omega), Int.max_eq_left (by omega)]
      exact List.Perm.swap _ _ _
  · simp only [List.pairwise_cons, List.mem_singleton, List.not_mem_nil, List.Pairwise.nil]
    refine ⟨fun z h => by subst h; omega, fun _ h => h.elim, trivial⟩

/-! C0b: draws -/
def mixI (x k : Int) : Int :=
  ((((x * 48271 + k * 69621 + 11) % 2147483647) * ((x * 48271 + k * 69621 + 11) % 2147483647) + k * 7919 + 5) % 2147483629 * ((((x * 48271 + k * 69621 + 11) % 2147483647) * ((x * 48271 + k * 69621 + 11) % 2147483647) + k * 7919 + 5) % 2147483629) + k * 40692 + 3) % 2147483587
theorem mix_eq {x k : Int} {st : Sto} : f_law_mix [.int x, .int k] st = some (.int (mixI x k), st) := by
  unfold f_law_mix
  refine runF_eq rfl (lb_int _ _) ?_
  show wp (D_law_mix [some (.int x), some (.int k)] st) _
  unfold D_law_mix
  walk_at "go"
  exact ⟨rfl, rfl⟩
theorem mix_pos {x k : Int} : 0 ≤ mixI x k := Int.emod_nonneg _ (by decide)

theorem ints_lb {n : Nat} {P : List Int} : (Cell.lst (P.map .int)).lb n = true := lbs_map (fun i => lb_int n i) P
/-- a pool of draws stands at p -/
def Pool (p : Nat) (st : Sto) : Prop := ∃ P : List Int, st.cs p = some (.lst (P.map .int)) ∧ 2 ≤ P.length
/-- only the pool at p may have changed -/
def Dr (p : Nat) (st st' : Sto) : Prop := ∃ P : List Int, st' = st.set p (.lst (P.map .int)) ∧ 2 ≤ P.length
theorem Pool.dr {p : Nat} {st st' : Sto} (h : Pool p st) (d : Dr p st st') : Pool p st' := by
  obtain ⟨P, hP, _⟩ := h
  obtain ⟨P', rfl, h2⟩ := d
  exact ⟨P', Sto.set_get hP ints_lb, h2⟩
theorem Dr.refl {p : Nat} {st : Sto} (h : Pool p st) : Dr p st st := by
  obtain ⟨P, hP, h2⟩ := h
  exact ⟨P, (Sto.set_self hP).symm, h2⟩
theorem Dr.trans {p : Nat} {st st1 st2 : Sto} (a : Dr p st st1) (b : Dr p st1 st2) : Dr p st st2 := by
  obtain ⟨P, rfl, _⟩ := a
  obtain ⟨P', rfl, h⟩ := b
  exact ⟨P', by rw [Sto.set_set ints_lb], h⟩
theorem Dr.get {p l : Nat} {st st' : Sto} (d : Dr p st st') (h : l ≠ p) : st'.cs l = st.cs l := by
  obtain ⟨P, rfl, _⟩ := d
  exact Sto.set_ne h
theorem Dr.nxt {p : Nat} {st st' : Sto} (d : Dr p st st') : st'.nxt = st.nxt := by
  obtain ⟨P, rfl, _⟩ := d
  rfl
theorem Pool.lt {p : Nat} {st : Sto} (h : Pool p st) : p < st.nxt := by
  obtain ⟨P, hP, _⟩ := h
  exact Sto.lt_of hP
theorem Dr.restr {p : Nat} {st st' : Sto} (d : Dr p st st') : st'.restr st.nxt = st' := by rw [← d.nxt, Sto.restr_self]
theorem ints_get {P : List Int} {k : Nat} (h : k < P.length) : (P.map PV.int)[k]? = some (.int P[k]) := by
  rw [List.getElem?_map, List.getElem?_eq_getElem h]; rfl
theorem ints_at {P : List Int} {k : Nat} (h : k < P.length) : atI (P.map PV.int) (k : Int) = some (.int P[k]) := atI_nat (ints_get h)
theorem draw_wp {p : Nat} {st : Sto} {lim : Int} {Q : PV → Sto → Prop} (h : Pool p st) (hl : 0 < lim) (q : ∀ r st', 0 ≤ r → r < lim → Dr p st st' → Q (.int r) st') : wp (f_law_draw [.loc p, .int lim] st) Q := by
  obtain ⟨P, hP, h2⟩ := h
  unfold f_law_draw
  refine wp_runF rfl ?_
  show wp (D_law_draw [some (.loc p), some (.int lim)] st) _
  have fin' : ∀ (r : Int) (P' : List Int), 2 ≤ P'.length → Q (.int (r % lim)) ((st.set p (.lst (P'.map .int))).restr st.nxt) := fun r P' h' =>
    q _ _ (Int.emod_nonneg _ (by omega)) (Int.emod_lt_of_pos _ hl) ⟨P', Sto.restr_self (st.set p (.lst (P'.map .int))), h'⟩
  unfold D_law_draw
  walk_at "go"
  refine wp_eq (loc_len hP) ?_
  walk_at "go"
  rw [List.length_map]
  refine wp_if (fun h3 => ?_) (fun h3 => ?_)
  · have h3 : 2 < P.length := by
      have := of_decide_eq_true h3
      omega
    walk_at "go"
    refine wp_eq (loc_asL hP) ?_
    walk_at "go"
    refine wp_eq (loc_pop hP (v := .int (P[P.length - 1]'(by omega))) (by rw [List.length_map]; exact ints_get (by omega))) ?_
    walk_at "go"
    rw [← List.map_dropLast]
    exact fin' _ _ (by rw [List.length_dropLast]; omega)
  · walk_at "go"
    refine wp_eq (loc_ix hP (ints_at (k := 1) (by omega))) ?_
    walk_at "go"
    refine wp_eq (a := [some (.loc p), some (.int lim)]) (s := st.set p (.lst ((P.set 1 (P[1] + 1)).map .int))) ?_ ?_
    · rw [loc_set hP (i := 1) (j := 1) (by rw [List.length_map]; unfold ixN; rw [if_pos (by decide), if_pos (by omega)]; rfl) (lb_int _ _), ← List.map_set]
      rfl
    have hP1 : (st.set p (.lst ((P.set 1 (P[1] + 1)).map .int))).cs p = some (.lst ((P.set 1 (P[1] + 1)).map .int)) := Sto.set_get hP ints_lb
    have hl1 : (P.set 1 (P[1] + 1)).length = P.length := List.length_set
    generalize P.set 1 (P[1] + 1) = P1 at hP1 hl1 ⊢
    walk_at "go"
    refine wp_eq (loc_ix hP1 (ints_at (k := 0) (by omega))) ?_
    walk_at "go"
    refine wp_eq (loc_ix hP1 (ints_at (k := 1) (by omega))) ?_
    walk_at "go"
    refine wp_eq (loc_ix hP1 (ints_at (k := 1) (by omega))) ?_
    walk_at "go"
    refine wp_eq mix_eq ?_
    walk_at "go"
    exact fin' _ _ (by omega)
theorem pick_wp {p : Nat} {st : Sto} {v : PV} {xs : List PV} {Q : PV → Sto → Prop} (h : Pool p st) (hx : ∀ st', Dr p st st' → seqOf st' v = some xs) (hne : 0 < xs.length) (hlb : ∀ x ∈ xs, x.lb 0 = true) (q : ∀ x st', x ∈ xs → Dr p st st' → Q x st') : wp (f_law_pick [.loc p, v] st) Q := by
  unfold f_law_pick
  refine wp_runF rfl ?_
  show wp (D_law_pick [some (.loc p), some v] st) _
  unfold D_law_pick
  walk_at "go"
  refine wp_eq (seq_len (hx st (.refl h))) ?_
  walk_at "go"
  refine draw_wp h (by omega) fun r st' h0 h1 d => ?_
  refine wp_set (by rw [d.nxt]) (lb_int _ _) ?_
  obtain ⟨k, rfl⟩ := Int.eq_ofNat_of_zero_le h0
  have hk : k < xs.length := by omega
  have hs := hx st' d
  refine wp_eq (seq_ix hs (atI_nat (List.getElem?_eq_getElem hk))) ?_
  walk_at "go"
  refine wp_eq (fin_val (PV.lb_mono (Nat.zero_le _) (hlb _ (List.getElem_mem hk)))) ?_
  rw [d.restr]
  exact q _ _ (List.getElem_mem hk) d
end DL

namespace DL
open PySem L2
local macro_rules | `(tactic| walk_at "go") => `(tactic| repeat (first | refine wp_mb ?_ | with_reducible refine wp_mul (by first | assumption | (exact okMul_iff.mpr (by omega))) ?_ | with_reducible refine wp_mod (by first | assumption | (exact okMod_iff.mpr (by omega))) ?_ | with_reducible refine wp_div (by first | assumption | (exact okDiv_iff.mpr (by omega))) ?_ | with_reducible refine wp_pow (by first | assumption | (exact okPow_iff.mpr (by decide))) ?_ | ((with_reducible refine wp_set ?_ ?_ ?_); (focus rfl); (focus first | exact tT_lb | exact lb_int _ _ | exact lb_bl _ _ | exact lb_non _ | assumption)) | refine wp_eq rfl ?_))
/-! C0c: the pool is made; the law's own comparison -/
theorem add_lst {m : Bool} {a b : List PV} {y : PV} {st : Sto} (h : lstOf st y = some b) : opAdd m (.lst a) y st = mkL m (a ++ b) st := by
  have e : opAdd m (.lst a) y st = (match lstOf st (.lst a), lstOf st y with | some a, some b => mkL m (a ++ b) st | _, _ => none) := by
    cases y <;> rfl
  rw [e, h]
  rfl
theorem lst_loc {l : Nat} {st : Sto} {xs : List PV} (h : st.cs l = some (.lst xs)) : lstOf st (.loc l) = some xs := by
  show (match st.cs l with | some (.lst xs) => some xs | _ => none) = _
  rw [h]
theorem alloc_snoc {st : Sto} {P : List Int} {x : Int} : (st.alloc (.lst (P.map .int))).set st.nxt (.lst (P.map .int ++ [.int x])) = st.alloc (.lst ((P ++ [x]).map .int)) := by
  have e : (P.map PV.int ++ [.int x]) = (P ++ [x]).map .int := by rw [List.map_append]; rfl
  rw [e, Sto.alloc_set ints_lb ints_lb]
theorem pool_wp {ns : List Int} {st : Sto} {Q : PV → Sto → Prop} (h : ns.length ≤ 63) (q : ∀ P : List Int, 2 ≤ P.length → Q (.loc st.nxt) (st.alloc (.lst (P.map .int)))) : wp (f_law_pool [.ro (ns.map .int)] st) Q := by
  unfold f_law_pool
  refine wp_runF rfl ?_
  show wp (D_law_pool [some (.ro (ns.map .int)), none, none, none, none, none] st) _
  unfold D_law_pool
  refine wp_mb (wp_mb (wp_mb (wp_eq rfl ?_)))
  refine wp_eq (mkM_eq (by decide) (lbs_nil _)) ?_
  walk_at "go"
  have h63 : ¬ (63 : Int) < (ns.length : Int) := by omega
  rw [List.length_map, if_neg h63]
  refine wp_pos (okR (n := ns.length) (by omega)) ?_
  walk_at "go"
  refine forGo_wp (its := ⟨rng 0 (ns.length : Int), none⟩) (fun k env s => ∃ (state : Int) (u3 u4 u5 : Option PV) (P : List Int), env = [some (.ro (ns.map .int)), some (.loc st.nxt), some (.int state), u3, u4, u5] ∧ s = st.alloc (.lst (P.map .int)) ∧ P.length ≤ 60 * k) _ (fun k x env s hx hI => ?_) (fun env s hI => ?_) ⟨_, none, none, none, [], rfl, rfl, Nat.zero_le _⟩
  · obtain ⟨state, u3, u4, u5, P, rfl, rfl, hP⟩ := hI
    obtain ⟨hk, rfl⟩ := rng_get hx
    refine ⟨Its.ok_none, wp_eq rfl ?_⟩
    walk_at "go"
    refine wp_eq (seq_ix rfl (i := (0 : Int) + (k : Int)) (x := .int ns[k]) (by rw [Int.zero_add]; exact ints_at hk)) ?_
    walk_at "go"
    refine wp_eq mix_eq ?_
    walk_at "go"
    generalize hc : (if ns[k] < 0 then -ns[k] else ns[k]) = cell
    refine wp_if (fun h1 => ?_) (fun h1 => ?_)
    · walk_at "go"
      refine wp_pos (okRng_iff.mpr ⟨by decide, by decide⟩) ?_
      walk_at "go"
      refine forGo_wp (its := ⟨rng 0 ((60 : Nat) : Int), none⟩) (fun j env s => ∃ (state cell : Int) (u3 u5 : Option PV) (P : List Int), env = [some (.ro (ns.map .int)), some (.loc st.nxt), some (.int state), u3, some (.int cell), u5] ∧ s = st.alloc (.lst (P.map .int)) ∧ P.length ≤ 60 * k + j) _ (fun j x env s hx hI => ?_) (fun env s hI => ?_) ⟨_, _, _, _, P, rfl, rfl, by omega⟩
      · obtain ⟨state, cell, u3, u5, P, rfl, rfl, hP⟩ := hI
        obtain ⟨hj, rfl⟩ := rng_get hx
        refine ⟨Its.ok_none, wp_eq rfl ?_⟩
        walk_at "go"
        refine wp_if (fun h1 => ?_) (fun h1 => ?_)
        · walk_at "go"
          refine wp_eq (loc_asL (Sto.alloc_get ints_lb)) ?_
          walk_at "go"
          refine wp_eq (loc_append (Sto.alloc_get ints_lb) (by rw [List.length_map, sizeLine_eq]; omega) (lb_int _ _)) ?_
          walk_at "go"
          refine ⟨_, _, _, _, P ++ [cell % 1000], rfl, ?_, by rw [List.length_append, List.length_singleton]; omega⟩
          exact alloc_snoc
        · walk_at "go"
          exact ⟨_, _, _, _, P, rfl, rfl, by omega⟩
      · obtain ⟨state, cell, u3, u5, P, rfl, rfl, hP⟩ := hI
        rw [rng_len] at hP
        refine ⟨Its.ok_none, ?_⟩
        exact ⟨_, _, _, _, P, rfl, rfl, by omega⟩
    · walk_at "go"
      refine wp_pos (okRng_iff.mpr ⟨by decide, by decide⟩) ?_
      walk_at "go"
      refine forGo_wp (its := ⟨rng 0 ((3 : Nat) : Int), none⟩) (fun j env s => ∃ (u5 : Option PV) (P : List Int), env = [some (.ro (ns.map .int)), some (.loc st.nxt), some (.int (mixI (state + cell % 1000000007) (0 + (k : Int)))), some (.int (0 + (k : Int))), some (.int cell), u5] ∧ s = st.alloc (.lst (P.map .int)) ∧ P.length ≤ 60 * k + j) _ (fun j x env s hx hI => ?_) (fun env s hI => ?_) ⟨_, P, rfl, rfl, by omega⟩
      · obtain ⟨u5, P, rfl, rfl, hP⟩ := hI
        obtain ⟨hj, rfl⟩ := rng_get hx
        refine ⟨Its.ok_none, wp_eq rfl ?_⟩
        walk_at "go"
        refine wp_eq (loc_asL (Sto.alloc_get ints_lb)) ?_
        walk_at "go"
        refine wp_eq mix_eq ?_
        walk_at "go"
        refine wp_eq (loc_append (Sto.alloc_get ints_lb) (by rw [List.length_map, sizeLine_eq]; omega) (lb_int _ _)) ?_
        walk_at "go"
        refine ⟨_, P ++ [mixI (cell + 65537 * (0 + (k : Int))) (0 + (j : Int))], rfl, ?_, by rw [List.length_append, List.length_singleton]; omega⟩
        exact alloc_snoc
      · obtain ⟨u5, P, rfl, rfl, hP⟩ := hI
        rw [rng_len] at hP
        refine ⟨Its.ok_none, ?_⟩
        exact ⟨_, _, _, _, P, rfl, rfl, by omega⟩
  · obtain ⟨state, u3, u4, u5, P, rfl, rfl, hP⟩ := hI
    rw [rng_len] at hP
    refine ⟨Its.ok_none, ?_⟩
    walk_at "go"
    refine wp_eq (loc_asL (Sto.alloc_get ints_lb)) ?_
    walk_at "go"
    refine wp_eq (loc_reverse (Sto.alloc_get ints_lb)) ?_
    rw [Sto.alloc_set ints_lb (by rw [← List.map_reverse]; exact ints_lb)]
    walk_at "go"
    rw [← List.map_reverse, add_lst (lst_loc (Sto.alloc_get ints_lb))]
    have e : [PV.int state, PV.int 0] ++ P.reverse.map PV.int = (state :: 0 :: P.reverse).map PV.int := rfl
    rw [e]
    refine wp_eq (mkM_eq (by rw [List.length_map, sizeLine_eq]; simp; omega) (lbs_map (fun i => lb_int _ i) _)) ?_
    walk_at "go"
    refine wp_eq (fin_loc (by rw [Sto.alloc_nxt]; omega) (Sto.alloc_get ints_lb) ints_lb) ?_
    rw [Sto.restr_alloc (by rw [Sto.alloc_nxt]; omega), Sto.restr_alloc (Nat.le_refl _), Sto.restr_self]
    exact q _ (by simp)

/-! the law's own == -/
def plainP : Nat → PV → Bool
  | _, .non => true
  | _, .bl _ => true
  | _, .int _ => true
  | d + 1, .tup xs => decide (xs.length ≤ 1000000) && xs.all (plainP d)
  | d + 1, .lst xs => decide (xs.length ≤ 1000000) && xs.all (plainP d)
  | _, _ => false
theorem derf_cases {st : Sto} {t v : PV} (h : derf st t = v) : t = v ∨ ∃ l c, t = .loc l ∧ st.cs l = some c ∧ v = c.val := by
  unfold derf at h
  split at h
  · rename_i l
    split at h
    · rename_i c hc
      exact .inr ⟨l, c, rfl, hc, h.symm⟩
    · exact .inl h
  · exact .inl h
theorem derf_atom {st : Sto} {t v : PV} (h : derf st t = v) (hv : ∀ c : Cell, v ≠ c.val) : t = v := by
  rcases derf_cases h with h | ⟨l, c, _, _, h⟩
  · exact h
  · exact absurd h (hv c)
theorem plain_derf {st : Sto} {d : Nat} {v : PV} (h : plainP d v = true) : derf st v = v := by
  cases v with
  | loc l => cases d <;> exact absurd (show false = true from h) Bool.false_ne_true
  | _ => rfl
theorem whole_int {i : Int} {st : Sto} : f_law_whole [.int i] st = some (.bl true, st) := by
  unfold f_law_whole
  refine runF_eq rfl (lb_bl _ _) ?_
  show wp (D_law_whole [some (.int i)] st) _
  unfold D_law_whole
  walk_at "go"
  exact ⟨rfl, rfl⟩
theorem lst_facts {st : Sto} {t : PV} {xs : List PV} (h : derf st t = .lst xs) : seqOf st t = some xs ∧ (∀ b, isTy b st t = some (b == BTy.list)) ∧ isNonP t = false ∧ (∀ s, t ≠ .str s) := by
  rcases derf_cases h with rfl | ⟨l, c, rfl, hc, e⟩
  · exact ⟨rfl, fun b => rfl, rfl, fun _ z => by cases z⟩
  · cases c with
    | lst ys =>
      cases e
      refine ⟨?_, fun b => ?_, rfl, fun _ z => by cases z⟩
      · show (match st.cs l with | some (.lst xs) => some xs | _ => none) = _
        rw [hc]
      · show (match st.cs l with | some (.lst _) => some (b == BTy.list) | some (.dct _ _) => some (b == BTy.dict) | _ => none) = _
        rw [hc]
    | dct _ _ => cases e
theorem isi_eq {b : BTy} {t : PV} {st : Sto} {r : Bool} (h : isTy b st t = some r) : bIsi b t st = some (.bl r, st) := by
  unfold bIsi
  rw [h]; rfl
theorem eqv_bool (x y : Bool) : (PyData.bool x).eqv (PyData.bool y) = (x == y) := by rw [PyData.eqv]
theorem eqv_str (x y : Str) : (PyData.str x).eqv (PyData.str y) = (x == y) := by rw [PyData.eqv]
/-- both are the same list or tuple: item by item -/
theorem same_seq {self : FSem} {told due : PV} {xs : List PV} {st : Sto} {ty : BTy} (hz : xs.length ≤ 1000000) (hty : ty = .list ∨ ty = .tuple) (h1 : seqOf st told = some xs) (h2 : seqOf st due = some xs) (t1 : ∀ b, isTy b st told = some (b == ty)) (t2 : ∀ b, isTy b st due = some (b == ty)) (n2 : isNonP due = false)
    (hs : ∀ x ∈ xs, self [x, x] st = some (.bl true, st)) : runF 4 2 (D_law_same self) [told, due] st = some (.bl true, st) := by
  refine runF_eq rfl (lb_bl _ _) ?_
  show wp (D_law_same self [some told, some due, none, none] st) _
  have b1 : (BTy.bool == ty) = false := by rcases hty with rfl | rfl <;> rfl
  have b2 : (BTy.int == ty) = false := by rcases hty with rfl | rfl <;> rfl
  have b3 : (BTy.str == ty) = false := by rcases hty with rfl | rfl <;> rfl
  have b4 : (BTy.dict == ty) = false := by rcases hty with rfl | rfl <;> rfl
  unfold D_law_same
  walk_at "go"
  rw [n2]
  walk_at "go"
  refine wp_eq (isi_eq (t2 .bool)) ?_
  rw [b1]
  walk_at "go"
  refine wp_eq (isi_eq (t2 .int)) ?_
  rw [b2]
  walk_at "go"
  refine wp_eq (isi_eq (t2 .str)) ?_
  rw [b3]
  walk_at "go"
  refine wp_eq (isi_eq (t2 .dict)) ?_
  rw [b4]
  walk_at "go"
  refine wp_eq (isi_eq (t2 .list)) ?_
  walk_at "go"
  refine wp_eq (isi_eq (t1 .list)) ?_
  walk_at "go"
  rw [eqv_bool, beq_self_eq_true]
  walk_at "go"
  refine wp_eq (isi_eq (t2 .tuple)) ?_
  walk_at "go"
  refine wp_eq (isi_eq (t1 .tuple)) ?_
  walk_at "go"
  rw [eqv_bool, beq_self_eq_true]
  walk_at "go"
  refine wp_eq (seq_len h1) ?_
  walk_at "go"
  refine wp_eq (seq_len h2) ?_
  walk_at "go"
  rw [eqv_int, beq_self_eq_true]
  walk_at "go"
  refine wp_eq (seq_len h2) ?_
  walk_at "go"
  refine wp_pos (okR hz) ?_
  walk_at "go"
  refine forGo_wp (its := ⟨rng 0 (xs.length : Int), none⟩) (fun k env s => s = st ∧ ∃ u2 u3, env = [some told, some due, u2, u3]) _ (fun k x env s hx hI => ?_) (fun env s hI => ?_) ⟨rfl, _, _, rfl⟩
  · obtain ⟨rfl, u2, u3, rfl⟩ := hI
    obtain ⟨hk, rfl⟩ := rng_get hx
    refine ⟨Its.ok_none, wp_eq rfl ?_⟩
    walk_at "go"
    have hat : atI xs ((0 : Int) + (k : Int)) = some xs[k] := by rw [Int.zero_add]; exact atI_nat (List.getElem?_eq_getElem hk)
    refine wp_eq (seq_ix h1 hat) ?_
    walk_at "go"
    refine wp_eq (seq_ix h2 hat) ?_
    walk_at "go"
    refine wp_eq (hs _ (List.getElem_mem hk)) ?_
    walk_at "go"
    exact ⟨rfl, _, _, rfl⟩
  · obtain ⟨rfl, u2, u3, rfl⟩ := hI
    refine ⟨Its.ok_none, ?_⟩
    walk_at "go"
    exact ⟨rfl, rfl⟩
theorem same_true : ∀ (d : Nat) {told due v : PV} {st : Sto}, derf st told = v → derf st due = v → plainP d v = true → r_law_same (d + 1) [told, due] st = some (.bl true, st) := by
  intro d
  induction d with
  | zero =>
    intro told due v st h1 h2 hp
    cases v with
    | non =>
      cases derf_atom h1 (fun c z => by cases c <;> cases z)
      cases derf_atom h2 (fun c z => by cases c <;> cases z)
      refine runF_eq rfl (lb_bl _ _) ?_
      show wp (D_law_same _ [some .non, some .non, none, none] st) _
      unfold D_law_same
      walk_at "go"
      exact ⟨rfl, rfl⟩
    | bl b =>
      cases derf_atom h1 (fun c z => by cases c <;> cases z)
      cases derf_atom h2 (fun c z => by cases c <;> cases z)
      refine runF_eq rfl (lb_bl _ _) ?_
      show wp (D_law_same _ [some (.bl b), some (.bl b), none, none] st) _
      unfold D_law_same
      walk_at "go"
      rw [eqv_bool, beq_self_eq_true]
      exact ⟨rfl, rfl⟩
    | int i =>
      cases derf_atom h1 (fun c z => by cases c <;> cases z)
      cases derf_atom h2 (fun c z => by cases c <;> cases z)
      refine runF_eq rfl (lb_bl _ _) ?_
      show wp (D_law_same _ [some (.int i), some (.int i), none, none] st) _
      unfold D_law_same
      walk_at "go"
      refine wp_eq whole_int ?_
      walk_at "go"
      rw [eqv_int, beq_self_eq_true]
      exact ⟨rfl, rfl⟩
    | _ => exact absurd (show false = true from hp) Bool.false_ne_true
  | succ d ih =>
    intro told due v st h1 h2 hp
    have up : ∀ {d : Nat} {t u w : PV} {st : Sto}, plainP 0 w = true → derf st t = w → derf st u = w → r_law_same (d + 1) [t, u] st = some (.bl true, st) := by
      intro d t u w st hp h1 h2
      cases w with
      | non =>
        cases derf_atom h1 (fun c z => by cases c <;> cases z)
        cases derf_atom h2 (fun c z => by cases c <;> cases z)
        refine runF_eq rfl (lb_bl _ _) ?_
        show wp (D_law_same _ [some .non, some .non, none, none] st) _
        unfold D_law_same
        walk_at "go"
        exact ⟨rfl, rfl⟩
      | bl b =>
        cases derf_atom h1 (fun c z => by cases c <;> cases z)
        cases derf_atom h2 (fun c z => by cases c <;> cases z)
        refine runF_eq rfl (lb_bl _ _) ?_
        show wp (D_law_same _ [some (.bl b), some (.bl b), none, none] st) _
        unfold D_law_same
        walk_at "go"
        rw [eqv_bool, beq_self_eq_true]
        exact ⟨rfl, rfl⟩
      | int i =>
        cases derf_atom h1 (fun c z => by cases c <;> cases z)
        cases derf_atom h2 (fun c z => by cases c <;> cases z)
        refine runF_eq rfl (lb_bl _ _) ?_
        show wp (D_law_same _ [some (.int i), some (.int i), none, none] st) _
        unfold D_law_same
        walk_at "go"
        refine wp_eq whole_int ?_
        walk_at "go"
        rw [eqv_int, beq_self_eq_true]
        exact ⟨rfl, rfl⟩
      | _ => exact absurd (show false = true from hp) Bool.false_ne_true
    cases v with
    | tup xs =>
      cases derf_atom h1 (fun c z => by cases c <;> cases z)
      cases derf_atom h2 (fun c z => by cases c <;> cases z)
      rw [plainP, Bool.and_eq_true, decide_eq_true_iff, List.all_eq_true] at hp
      exact same_seq hp.1 (.inr rfl) rfl rfl (fun b => rfl) (fun b => rfl) rfl fun x hx => ih (plain_derf (hp.2 x hx)) (plain_derf (hp.2 x hx)) (hp.2 x hx)
    | lst xs =>
      rw [plainP, Bool.and_eq_true, decide_eq_true_iff, List.all_eq_true] at hp
      obtain ⟨a1, a2, a3, _⟩ := lst_facts h1
      obtain ⟨b1, b2, b3, _⟩ := lst_facts h2
      exact same_seq hp.1 (.inl rfl) a1 b1 a2 b2 b3 fun x hx => ih (plain_derf (hp.2 x hx)) (plain_derf (hp.2 x hx)) (hp.2 x hx)
    | non => exact up rfl h1 h2
    | bl _ => exact up rfl h1 h2
    | int _ => exact up rfl h1 h2
    | _ => exact absurd (show false = true from hp) Bool.false_ne_true
theorem same_ok {told due v : PV} {st : Sto} (h1 : derf st told = v) (h2 : derf st due = v) (hp : plainP 5 v = true) : f_law_same 6 [told, due] st = some (.bl true, st) := by
  unfold f_law_same
  exact same_true 5 h1 h2 hp
theorem plain_tT {d : Nat} {a : List Int} (h : a.length ≤ 1000000) : plainP (d + 1) (tT a) = true := by
  show (decide ((a.map PV.int).length ≤ 1000000) && (a.map PV.int).all (plainP d)) = true
  rw [List.length_map, decide_eq_true h, List.all_map]
  rw [List.all_eq_true.mpr (fun x _ => by cases d <;> rfl)]
  rfl
theorem plain_int {d : Nat} {i : Int} : plainP d (.int i) = true := by cases d <;> rfl
theorem plain_bl {d : Nat} {i : Bool} : plainP d (.bl i) = true := by cases d <;> rfl
theorem plain_non {d : Nat} : plainP d .non = true := by cases d <;> rfl
end DL

namespace DL
open PySem L2
local macro_rules | `(tactic| walk_at "go") => `(tactic| repeat (first | refine wp_mb ?_ | with_reducible refine wp_mul (by first | assumption | (exact okMul_iff.mpr (by omega))) ?_ | with_reducible refine wp_mod (by first | assumption | (exact okMod_iff.mpr (by omega))) ?_ | with_reducible refine wp_div (by first | assumption | (exact okDiv_iff.mpr (by omega))) ?_ | with_reducible refine wp_pow (by first | assumption | (exact okPow_iff.mpr (by decide))) ?_ | ((with_reducible refine wp_set ?_ ?_ ?_); (focus rfl); (focus first | exact tT_lb | exact lb_int _ _ | exact lb_bl _ _ | exact lb_non _ | assumption)) | refine wp_eq rfl ?_))
/-! C0d: the law's own comparison tells whether two values are the same -/
theorem same_gen {self : FSem} {told due : PV} {xs ys : List PV} {f : Nat → Bool} {st : Sto} {ty : BTy} (hz : ys.length ≤ 1000000) (hty : ty = .list ∨ ty = .tuple) (h1 : seqOf st told = some xs) (h2 : seqOf st due = some ys) (t1 : ∀ b, isTy b st told = some (b == ty)) (t2 : ∀ b, isTy b st due = some (b == ty)) (n2 : isNonP due = false)
    (hs : ∀ k (hx : k < xs.length) (hy : k < ys.length), self [xs[k], ys[k]] st = some (.bl (f k), st)) : runF 4 2 (D_law_same self) [told, due] st = some (.bl (decide (xs.length = ys.length) && (List.range ys.length).all f), st) := by
  refine runF_eq rfl (lb_bl _ _) ?_
  show wp (D_law_same self [some told, some due, none, none] st) _
  have b1 : (BTy.bool == ty) = false := by rcases hty with rfl | rfl <;> rfl
  have b2 : (BTy.int == ty) = false := by rcases hty with rfl | rfl <;> rfl
  have b3 : (BTy.str == ty) = false := by rcases hty with rfl | rfl <;> rfl
  have b4 : (BTy.dict == ty) = false := by rcases hty with rfl | rfl <;> rfl
  unfold D_law_same
  walk_at "go"
  rw [n2]
  walk_at "go"
  refine wp_eq (isi_eq (t2 .bool)) ?_
  rw [b1]
  walk_at "go"
  refine wp_eq (isi_eq (t2 .int)) ?_
  rw [b2]
  walk_at "go"
  refine wp_eq (isi_eq (t2 .str)) ?_
  rw [b3]
  walk_at "go"
  refine wp_eq (isi_eq (t2 .dict)) ?_
  rw [b4]
  walk_at "go"
  refine wp_eq (isi_eq (t2 .list)) ?_
  walk_at "go"
  refine wp_eq (isi_eq (t1 .list)) ?_
  walk_at "go"
  rw [eqv_bool, beq_self_eq_true]
  walk_at "go"
  refine wp_eq (isi_eq (t2 .tuple)) ?_
  walk_at "go"
  refine wp_eq (isi_eq (t1 .tuple)) ?_
  walk_at "go"
  rw [eqv_bool, beq_self_eq_true]
  walk_at "go"
  refine wp_eq (seq_len h1) ?_
  walk_at "go"
  refine wp_eq (seq_len h2) ?_
  walk_at "go"
  rw [eqv_int]
  by_cases hl : xs.length = ys.length
  · rw [hl, beq_self_eq_true]
    walk_at "go"
    refine wp_eq (seq_len h2) ?_
    walk_at "go"
    refine wp_pos (okR hz) ?_
    walk_at "go"
    refine forGo_wp (its := ⟨rng 0 (ys.length : Int), none⟩) (fun k env s => s = st ∧ (∃ u2 u3, env = [some told, some due, u2, u3]) ∧ ∀ j, j < k → f j = true) _ (fun k x env s hx hI => ?_) (fun env s hI => ?_) ⟨rfl, ⟨_, _, rfl⟩, fun j z => by omega⟩
    · obtain ⟨rfl, ⟨u2, u3, rfl⟩, hf⟩ := hI
      obtain ⟨hk, rfl⟩ := rng_get hx
      refine ⟨Its.ok_none, wp_eq rfl ?_⟩
      walk_at "go"
      have hk1 : k < xs.length := by omega
      refine wp_eq (seq_ix h1 (i := (0 : Int) + (k : Int)) (x := xs[k]) (by rw [Int.zero_add]; exact atI_nat (List.getElem?_eq_getElem hk1))) ?_
      walk_at "go"
      refine wp_eq (seq_ix h2 (i := (0 : Int) + (k : Int)) (x := ys[k]) (by rw [Int.zero_add]; exact atI_nat (List.getElem?_eq_getElem hk))) ?_
      walk_at "go"
      refine wp_eq (hs k hk1 hk) ?_
      walk_at "go"
      cases hfk : f k with
      | true =>
        walk_at "go"
        refine ⟨rfl, ⟨_, _, rfl⟩, fun j hj => ?_⟩
        by_cases e : j = k
        · subst e; exact hfk
        · exact hf j (by omega)
      | false =>
        walk_at "go"
        have : (List.range ys.length).all f = false := by
          rw [List.all_eq_false]
          exact ⟨k, List.mem_range.mpr hk, by rw [hfk]; decide⟩
        rw [this, Bool.and_false]
        exact ⟨rfl, rfl⟩
    · obtain ⟨rfl, ⟨u2, u3, rfl⟩, hf⟩ := hI
      rw [rng_len] at hf
      refine ⟨Its.ok_none, ?_⟩
      walk_at "go"
      rw [List.all_eq_true.mpr fun j hj => hf j (List.mem_range.mp hj), decide_eq_true rfl]
      exact ⟨rfl, rfl⟩
  · have e0 : ((xs.length : Int) == (ys.length : Int)) = false := by
      simp only [beq_eq_false_iff_ne]
      omega
    rw [e0, decide_eq_false hl]
    walk_at "go"
    exact ⟨rfl, rfl⟩
/-- two values of a make are compared -/
def Cmp {α : Type} [DecidableEq α] (p : α → PV) (d : Nat) (P : α → Prop) : Prop := ∀ a b (st : Sto), P a → P b → r_law_same d [p a, p b] st = some (.bl (decide (a = b)), st)
theorem cmp_int {d : Nat} : Cmp PV.int (d + 1) (fun _ => True) := fun a b st _ _ => by
  refine runF_eq rfl (lb_bl _ _) ?_
  show wp (D_law_same _ [some (.int a), some (.int b), none, none] st) _
  unfold D_law_same
  walk_at "go"
  refine wp_eq whole_int ?_
  walk_at "go"
  rw [eqv_int]
  refine ⟨?_, rfl⟩
  by_cases h : a = b
  · subst h; simp
  · simp [h]
theorem all_eq {α : Type} [DecidableEq α] [Inhabited α] : ∀ {a b : List α}, a.length = b.length → ((List.range b.length).all fun k => decide ((a[k]?).getD default = (b[k]?).getD default)) = decide (a = b)
  | [], [], _ => rfl
  | x :: a, y :: b, h => by
    rw [List.length_cons, List.range_succ_eq_map, List.all_cons, List.all_map]
    have ih := all_eq (a := a) (b := b) (by simpa using h)
    have : (List.range b.length).all ((fun k => decide (((x :: a)[k]?).getD default = ((y :: b)[k]?).getD default)) ∘ Nat.succ) = decide (a = b) := ih
    rw [this]
    show (decide (x = y) && decide (a = b)) = _
    by_cases h1 : x = y
    · by_cases h2 : a = b
      · simp [h1, h2]
      · simp [h1, h2]
    · simp [h1]
theorem cmp_seq {α : Type} [DecidableEq α] [Inhabited α] {p : α → PV} {d : Nat} {P : α → Prop} (h : Cmp p d P) (mk : List PV → PV) (ty : BTy) (hty : ty = .list ∨ ty = .tuple) (hm1 : ∀ st xs, seqOf st (mk xs) = some xs) (hm2 : ∀ st xs b, isTy b st (mk xs) = some (b == ty)) (hm3 : ∀ xs, isNonP (mk xs) = false) :
    Cmp (fun l : List α => mk (l.map p)) (d + 1) (fun l => l.length ≤ 1000000 ∧ ∀ a ∈ l, P a) := fun a b st ha hb => by
  have := same_gen (self := r_law_same d) (told := mk (a.map p)) (due := mk (b.map p)) (xs := a.map p) (ys := b.map p) (f := fun k => decide ((a[k]?).getD default = (b[k]?).getD default)) (st := st) (by rw [List.length_map]; exact hb.1) hty (hm1 _ _) (hm1 _ _) (hm2 _ _) (hm2 _ _) (hm3 _) fun k hx hy => by
    have hx' : k < a.length := by rw [List.length_map] at hx; exact hx
    have hy' : k < b.length := by rw [List.length_map] at hy; exact hy
    rw [List.getElem_map, List.getElem_map, List.getElem?_eq_getElem hx', List.getElem?_eq_getElem hy']
    exact h _ _ st (ha.2 _ (List.getElem_mem hx')) (hb.2 _ (List.getElem_mem hy'))
  refine Eq.trans this ?_
  rw [List.length_map, List.length_map]
  by_cases hl : a.length = b.length
  · rw [all_eq hl, decide_eq_true hl, Bool.true_and]
  · rw [decide_eq_false hl, Bool.false_and, decide_eq_false fun e => hl (by rw [e])]
theorem cmp_tup {α : Type} [DecidableEq α] [Inhabited α] {p : α → PV} {d : Nat} {P : α → Prop} (h : Cmp p d P) : Cmp (fun l : List α => PV.tup (l.map p)) (d + 1) (fun l => l.length ≤ 1000000 ∧ ∀ a ∈ l, P a) :=
  cmp_seq h .tup .tuple (.inr rfl) (fun _ _ => rfl) (fun _ _ _ => rfl) fun _ => rfl
theorem cmp_lst {α : Type} [DecidableEq α] [Inhabited α] {p : α → PV} {d : Nat} {P : α → Prop} (h : Cmp p d P) : Cmp (fun l : List α => PV.lst (l.map p)) (d + 1) (fun l => l.length ≤ 1000000 ∧ ∀ a ∈ l, P a) :=
  cmp_seq h .lst .list (.inl rfl) (fun _ _ => rfl) (fun _ _ _ => rfl) fun _ => rfl
theorem cmp_tri {α β γ : Type} [DecidableEq α] [DecidableEq β] [DecidableEq γ] {p : α → PV} {q : β → PV} {r : γ → PV} {d : Nat} {P : α → Prop} {Q : β → Prop} {R : γ → Prop} (h1 : Cmp p d P) (h2 : Cmp q d Q) (h3 : Cmp r d R) :
    Cmp (fun x : α × β × γ => PV.tup [p x.1, q x.2.1, r x.2.2]) (d + 1) (fun x => P x.1 ∧ Q x.2.1 ∧ R x.2.2) := fun a b st ha hb => by
  have := same_gen (self := r_law_same d) (told := .tup [p a.1, q a.2.1, r a.2.2]) (due := .tup [p b.1, q b.2.1, r b.2.2]) (xs := [p a.1, q a.2.1, r a.2.2]) (ys := [p b.1, q b.2.1, r b.2.2]) (f := fun k => match k with | 0 => decide (a.1 = b.1) | 1 => decide (a.2.1 = b.2.1) | _ => decide (a.2.2 = b.2.2)) (st := st) (by show 3 ≤ 1000000; decide) (.inr rfl) rfl rfl (fun _ => rfl) (fun _ => rfl) rfl fun k hx hy => by
    match k, hx, hy with
    | 0, _, _ => exact h1 _ _ st ha.1 hb.1
    | 1, _, _ => exact h2 _ _ st ha.2.1 hb.2.1
    | 2, _, _ => exact h3 _ _ st ha.2.2 hb.2.2
    | k + 3, hx, _ => exact absurd (show k + 3 < 3 from hx) (by omega)
  refine Eq.trans this ?_
  congr 3
  show (true && (decide (a.1 = b.1) && (decide (a.2.1 = b.2.1) && (decide (a.2.2 = b.2.2) && true)))) = _
  by_cases e1 : a.1 = b.1
  · by_cases e2 : a.2.1 = b.2.1
    · by_cases e3 : a.2.2 = b.2.2
      · simp [e1, e2, e3, Prod.ext_iff]
      · simp [e1, e2, e3, Prod.ext_iff]
    · simp [e1, e2, Prod.ext_iff]
  · simp [e1, Prod.ext_iff]
end DL

namespace DL
open PySem L2
local macro_rules | `(tactic| walk_at "go") => `(tactic| repeat (first | refine wp_mb ?_ | with_reducible refine wp_mul (by first | assumption | (exact okMul_iff.mpr (by omega))) ?_ | with_reducible refine wp_mod (by first | assumption | (exact okMod_iff.mpr (by omega))) ?_ | with_reducible refine wp_div (by first | assumption | (exact okDiv_iff.mpr (by omega))) ?_ | with_reducible refine wp_pow (by first | assumption | (exact okPow_iff.mpr (by decide))) ?_ | ((with_reducible refine wp_set ?_ ?_ ?_); (focus rfl); (focus first | exact tT_lb | exact lb_int _ _ | exact lb_bl _ _ | exact lb_non _ | assumption)) | refine wp_eq rfl ?_))
/-! C1s: more that the laws share -/
theorem zip_get {f : Int → Int → Int} {a b : List Int} {k : Nat} (ha : k < a.length) (hb : k < b.length) : ((List.zipWith f a b).map PV.int)[k]? = some (.int (f a[k] b[k])) := by
  rw [List.getElem?_map, List.getElem?_zipWith, List.getElem?_eq_getElem ha, List.getElem?_eq_getElem hb]
  rfl
theorem bTuple_lst {xs : List PV} {st : Sto} (h : xs.length ≤ 1000000) : bTuple [.lst xs] st = some (.tup xs, st) := mkT_eq (okL h)
theorem law_leq_eq {a b : List Int} (h : a.length = b.length) (ha : a.length ≤ 1000) {st : Sto} : f_law_leq [tT a, tT b] st = some (.bl (leqB a b), st) := by
  unfold f_law_leq
  refine runF_eq rfl (lb_bl _ _) ?_
  show wp (D_law_leq [some (tT a), some (tT b), none] st) _
  unfold D_law_leq
  walk_at "go"
  rw [List.length_map]
  refine wp_pos (okR (by omega)) ?_
  walk_at "go"
  refine wp_eq (lc_rng ((List.zipWith (fun x y => decide (x ≤ y)) a b).map .bl) (by rw [List.length_map, List.length_zipWith]; omega) fun k hk => ⟨_, .bl (decide (a[k] ≤ b[k])), rfl, ?_, eq_of_wp ?_⟩) ?_
  · rw [List.getElem?_map, List.getElem?_zipWith, List.getElem?_eq_getElem hk, List.getElem?_eq_getElem (by omega)]
    rfl
  · walk_at "go"
    rw [tup_ix hk]
    walk_at "go"
    rw [tup_ix (a := b) (by omega)]
    walk_at "go"
    exact ⟨rfl, rfl⟩
  · refine wp_eq (mkV_eq (okL (by rw [List.length_map, List.length_zipWith]; omega))) ?_
    refine wp_eq (a := .bl (leqB a b)) (s := st) ?_ (wp_ret ⟨rfl, rfl⟩)
    have flat : ∀ l : List Bool, (l.map PV.bl).all flatP = true := fun l => by rw [List.all_map, List.all_eq_true]; intro _ _; rfl
    have anyf : ∀ l : List Bool, ((l.map PV.bl).any fun z => eqP z (.bl false)) = !(l.all id) := fun l => by
      induction l with
      | nil => rfl
      | cons x l ih =>
        rw [List.map_cons, List.any_cons, ih, List.all_cons]
        cases x <;> cases l.all id <;> rfl
    have key : ∀ a b : List Int, a.length = b.length → (List.zipWith (fun x y => decide (x ≤ y)) a b).all id = leqB a b := by
      intro a
      induction a with
      | nil => intro b h; cases b with
        | nil => rfl
        | cons _ _ => cases h
      | cons x a ih => intro b h; cases b with
        | nil => cases h
        | cons y b =>
          rw [List.zipWith_cons_cons, List.all_cons, ih b (by simpa using h), leqB]
          rfl
    show (if (flatP (.bl false) && ((List.zipWith (fun x y => decide (x ≤ y)) a b).map PV.bl).all flatP) = true then some (PV.bl ((((List.zipWith (fun x y => decide (x ≤ y)) a b).map PV.bl).any fun z => eqP z (.bl false)) != true), st) else _) = _
    rw [flat, if_pos (show (flatP (.bl false) && true) = true from rfl), anyf, key a b h]
    cases leqB a b <;> rfl
theorem add_tup {m : Bool} {a b : List PV} {st : Sto} (h : a.length + b.length ≤ 1000000) : opAdd m (.tup a) (.tup b) st = some (.tup (a ++ b), st) := by
  show (if a.length + b.length ≤ sizeLine then some (PV.tup (a ++ b), st) else none) = _
  rw [if_pos (okL h)]
theorem add_tT {m : Bool} {a b : List Int} {st : Sto} (h : a.length + b.length ≤ 1000000) : opAdd m (tT a) (tT b) st = some (tT (a ++ b), st) := by
  show opAdd m (.tup (a.map .int)) (.tup (b.map .int)) st = _
  rw [add_tup (by rw [List.length_map, List.length_map]; exact h), ← List.map_append]
  rfl
theorem sIx_to {n k d : Nat} : HT.sIx n d (some (k : Int)) = min k n := HT.sIx_nat n d k
theorem cut_from {xs : List PV} {k : Nat} (h : k ≤ xs.length) : cutP xs (some (k : Int)) none = xs.drop k := by
  unfold cutP
  rw [sIx_to, HT.sIx_none, Nat.min_eq_left h]
  exact List.take_of_length_le (by rw [List.length_drop]; omega)
theorem cut_to {xs : List PV} {k : Nat} (h : k ≤ xs.length) : cutP xs none (some (k : Int)) = xs.take k := by
  unfold cutP
  rw [sIx_to, HT.sIx_none, Nat.min_eq_left h, Nat.sub_zero, List.drop_zero]
theorem seq_of_lst {v : PV} {st : Sto} {xs : List PV} (h : lstOf st v = some xs) : seqOf st v = some xs := by
  cases v with
  | lst ys => exact h
  | loc l => exact h
  | _ => cases h
theorem derf_of_lst {v : PV} {st : Sto} {xs : List PV} (h : lstOf st v = some xs) : derf st v = .lst xs := by
  cases v with
  | lst ys => cases h; rfl
  | loc l =>
    have h : (match st.cs l with | some (.lst xs) => some xs | _ => none) = some xs := h
    show (match st.cs l with | some c => c.val | none => .loc l) = _
    split at h
    · rename_i hl
      cases h
      rw [hl]; rfl
    · cases h
  | _ => cases h
theorem intsOf_map (l : List Int) : intsOf (l.map .int) = some l := by
  induction l with
  | nil => rfl
  | cons x l ih => rw [List.map_cons, intsOf, ih]; rfl

theorem get_map {α : Type} {f : α → PV} {l : List α} {k : Nat} {x : PV} (h : (l.map f)[k]? = some x) : ∃ y, l[k]? = some y ∧ y ∈ l ∧ x = f y := by
  rw [List.getElem?_map] at h
  cases hk : l[k]? with
  | none => rw [hk] at h; cases h
  | some y => rw [hk] at h; cases h; exact ⟨y, rfl, List.mem_of_getElem? hk, rfl⟩
theorem bMin_ints {l : List Int} {st : Sto} (h : l ≠ []) : bMin [.lst (l.map .int)] st = some (.int (minL l), st) := by
  show (match intsOf (l.map .int) with | some (i :: r) => some (PV.int (minL (i :: r)), st) | _ => none) = _
  rw [intsOf_map]
  cases l with
  | nil => exact absurd rfl h
  | cons x r => rfl
theorem bList_v {v : PV} {xs : List PV} {st : Sto} (h : seqOf st v = some xs) (hz : xs.length ≤ 1000000) : bList false [v] st = some (.lst xs, st) := by
  show (match seqOf st v with | some xs => mkL false xs st | none => none) = _
  rw [h]
  exact mkV_eq (okL hz)
theorem pool_new {P : List Int} {st : Sto} (h : 2 ≤ P.length) : Pool st.nxt (st.alloc (.lst (P.map .int))) := ⟨P, Sto.alloc_get ints_lb, h⟩
theorem Pool.alloc {p : Nat} {st : Sto} {c : Cell} (h : Pool p st) : Pool p (st.alloc c) := by
  obtain ⟨P, hP, h2⟩ := h
  have : p < st.nxt := Sto.lt_of hP
  exact ⟨P, by rw [Sto.alloc_ne (by omega)]; exact hP, h2⟩
theorem Pool.set {p l : Nat} {st : Sto} {c : Cell} (h : Pool p st) (hl : l ≠ p) : Pool p (st.set l c) := by
  obtain ⟨P, hP, h2⟩ := h
  exact ⟨P, by rw [Sto.set_ne (Ne.symm hl)]; exact hP, h2⟩
/-! C0l: leq -/
theorem leq_eq {a b : List Int} (ha : a.length ≤ 1000) {st : Sto} : f_leq [tT a, tT b] st = some (.bl (leqB a b), st) := by
  unfold f_leq
  refine runF_eq rfl (lb_bl _ _) ?_
  show wp (D_leq [some (tT a), some (tT b), none] st) _
  unfold D_leq
  walk_at "go"
  rw [eqv_int, List.length_map, List.length_map]
  refine wp_if (fun h => ?_) (fun h => ?_)
  · walk_at "go"
    have h : a.length ≠ b.length := by
      intro e
      rw [e] at h
      simp at h
    rw [leqB_len h]
    exact ⟨rfl, rfl⟩
  · have h : a.length = b.length := by
      simp at h
      omega
    walk_at "go"
    rw [List.length_map]
    refine wp_pos (okR (by omega)) ?_
    walk_at "go"
    refine forGo_wp (its := ⟨rng 0 (a.length : Int), none⟩) (fun k env s => s = st ∧ (∃ u, env = [some (tT a), some (tT b), u]) ∧ leqB a b = leqB (a.drop k) (b.drop k)) _ (fun k x env s hx hI => ?_) (fun env s hI => ?_) ⟨rfl, ⟨_, rfl⟩, rfl⟩
    · obtain ⟨rfl, ⟨u, rfl⟩, hl⟩ := hI
      obtain ⟨hk, rfl⟩ := rng_get hx
      refine ⟨Its.ok_none, ?_⟩
      refine wp_eq rfl ?_
      walk_at "go"
      rw [tup_ix hk]
      walk_at "go"
      rw [tup_ix (a := b) (by omega)]
      walk_at "go"
      rw [leqB_drop hk (by omega)] at hl
      refine wp_if (fun h1 => ?_) (fun h1 => ?_)
      · walk_at "go"
        rw [hl]
        have : ¬ a[k] ≤ b[k] := by simpa using h1
        rw [decide_eq_false this]
        exact ⟨rfl, rfl⟩
      · walk_at "go"
        have : a[k] ≤ b[k] := by simpa using h1
        rw [decide_eq_true this] at hl
        exact ⟨rfl, ⟨_, rfl⟩, hl⟩
    · obtain ⟨rfl, ⟨u, rfl⟩, hl⟩ := hI
      refine ⟨Its.ok_none, ?_⟩
      walk_at "go"
      rw [rng_len, List.drop_length, h, List.drop_length] at hl
      rw [hl]
      exact ⟨rfl, rfl⟩
/-! C0m: a drawn time -/
theorem moment_wp {p size : Nat} {st : Sto} {span : Int} {Q : PV → Sto → Prop} (h : Pool p st) (hs : 0 < span) (hz : size ≤ 1000) (q : ∀ a st', a.length = size → (∀ x ∈ a, 0 ≤ x ∧ x < span) → Dr p st st' → Q (tT a) st') : wp (f_law_moment [.loc p, .int size, .int span] st) Q := by
  unfold f_law_moment
  refine wp_runF rfl ?_
  show wp (D_law_moment [some (.loc p), some (.int size), some (.int span), none] st) _
  unfold D_law_moment
  walk_at "go"
  refine wp_pos (okR (by omega)) ?_
  walk_at "go"
  refine lcGo_wp (its := ⟨rng 0 (size : Int), none⟩) (fun k done s => Dr p st s ∧ ∃ a : List Int, done = a.map .int ∧ a.length = k ∧ ∀ x ∈ a, 0 ≤ x ∧ x < span) _ (fun k x done s hx hI => ?_) (fun done s hI => ?_) ⟨.refl h, [], rfl, rfl, fun x hx => by cases hx⟩
  · obtain ⟨d, a, rfl, rfl, hb⟩ := hI
    refine ⟨Its.ok_none, ?_⟩
    walk_at "go"
    refine draw_wp (h.dr d) hs fun r st' h0 h1 d' => ?_
    refine wp_set (by rw [d'.nxt]) (lb_int _ _) ?_
    refine ⟨d.trans d', a ++ [r], by rw [List.map_append]; rfl, by rw [List.length_append]; rfl, fun x hx => ?_⟩
    rcases List.mem_append.mp hx with hx | hx
    · exact hb x hx
    · rw [List.mem_singleton] at hx
      subst hx
      exact ⟨h0, h1⟩
  · obtain ⟨d, a, rfl, ha, hb⟩ := hI
    rw [rng_len] at ha
    refine ⟨Its.ok_none, ?_⟩
    refine wp_eq (mkV_eq (okL (by rw [List.length_map]; omega))) ?_
    walk_at "go"
    refine wp_eq (a := tT a) (s := s) (mkT_eq (okL (by rw [List.length_map]; omega))) ?_
    walk_at "go"
    refine wp_eq (fin_val tT_lb) ?_
    rw [d.restr]
    exact q a s ha hb d
/-! C1t: tuples, pieces -/
theorem tup_nat {a : List Int} {i : Int} {k : Nat} (hi : i = (k : Int)) (h : k < a.length) {st : Sto} : opIx (tT a) (.int i) st = some (.int a[k], st) := by
  subst hi
  exact seq_ix (v := tT a) rfl (ints_at h)
theorem cutT_to {a : List Int} {i : Int} {k : Nat} (hi : i = (k : Int)) (h : k ≤ a.length) : cutP (a.map PV.int) none (some i) = (a.take k).map PV.int := by
  subst hi
  rw [cut_to (by rw [List.length_map]; exact h), List.map_take]
theorem cutT_from {a : List Int} {i : Int} {k : Nat} (hi : i = (k : Int)) (h : k ≤ a.length) : cutP (a.map PV.int) (some i) none = (a.drop k).map PV.int := by
  subst hi
  rw [cut_from (by rw [List.length_map]; exact h), List.map_drop]
theorem getD_at {a : List Int} {k : Nat} (h : k < a.length) : a.getD k 0 = a[k] := by rw [List.getD_eq_getElem?_getD, List.getElem?_eq_getElem h]; rfl
theorem cutL_to {xs : List PV} {i : Int} {k : Nat} (hi : i = (k : Int)) (h : k ≤ xs.length) : cutP xs none (some i) = xs.take k := by
  subst hi
  exact cut_to h
theorem cutL_from {xs : List PV} {i : Int} {k : Nat} (hi : i = (k : Int)) (h : k ≤ xs.length) : cutP xs (some i) none = xs.drop k := by
  subst hi
  exact cut_from h
end DL

namespace DL
open PySem L2
/-! E: == and in over tuples of ints -/
theorem toDs_ints {cs : Nat → Option Cell} : ∀ a : List Int, toDs cs (a.map .int) = some (a.map PyData.int)
  | [] => by rw [List.map_nil, toDs]; rfl
  | x :: a => by rw [List.map_cons, toDs, PV.toD, toDs_ints a]; rfl
theorem toD_tT {cs : Nat → Option Cell} {a : List Int} : (tT a).toD cs = some (.tuple (a.map PyData.int)) := by
  unfold tT
  rw [PV.toD, toDs_ints]; rfl
theorem toDs_rows {cs : Nat → Option Cell} : ∀ ks : List (List Int), toDs cs (ks.map tT) = some (ks.map fun a => PyData.tuple (a.map PyData.int))
  | [] => by rw [List.map_nil, toDs]; rfl
  | x :: a => by rw [List.map_cons, toDs, toD_tT, toDs_rows a]; rfl
theorem eqvA_ints : ∀ a b : List Int, PyData.eqvAll (a.map PyData.int) (b.map PyData.int) = decide (a = b)
  | [], [] => by rw [List.map_nil, PyData.eqvAll]; rfl
  | [], y :: b => by rw [List.map_nil, List.map_cons, PyData.eqvAll]; rfl
  | x :: a, [] => by rw [List.map_nil, List.map_cons, PyData.eqvAll]; rfl
  | x :: a, y :: b => by
    rw [List.map_cons, List.map_cons, PyData.eqvAll, PyData.eqv, eqvA_ints a b]
    by_cases h : x = y
    · subst h; simp
    · simp [h]
theorem eqv_tT (a b : List Int) : (PyData.tuple (a.map PyData.int)).eqv (.tuple (b.map PyData.int)) = decide (a = b) := by
  rw [PyData.eqv, eqvA_ints]
theorem eqvA_rows : ∀ a b : List (List Int), PyData.eqvAll (a.map fun k => PyData.tuple (k.map PyData.int)) (b.map fun k => PyData.tuple (k.map PyData.int)) = decide (a = b)
  | [], [] => by rw [List.map_nil, PyData.eqvAll]; rfl
  | [], y :: b => by rw [List.map_nil, List.map_cons, PyData.eqvAll]; rfl
  | x :: a, [] => by rw [List.map_nil, List.map_cons, PyData.eqvAll]; rfl
  | x :: a, y :: b => by
    rw [List.map_cons, List.map_cons, PyData.eqvAll, eqv_tT, eqvA_rows a b]
    by_cases h : x = y
    · subst h; simp
    · simp [h]
theorem lay_ints : ∀ a : List Int, PyData.canLayAll0 (a.map PyData.int) = true ∧ PyData.depthAll (a.map PyData.int) = 0
  | [] => by rw [List.map_nil, PyData.canLayAll0, PyData.depthAll]; exact ⟨rfl, rfl⟩
  | x :: a => by
    obtain ⟨h1, h2⟩ := lay_ints a
    rw [List.map_cons, PyData.canLayAll0, PyData.depthAll, h1, h2, PyData.canLay0, PyData.depth]
    exact ⟨rfl, rfl⟩
theorem shaped_tT (a : List Int) : SeqAt.shaped (.tuple (a.map PyData.int)) = true := by
  obtain ⟨h1, h2⟩ := lay_ints a
  unfold SeqAt.shaped
  rw [PyData.canLay0, PyData.depth, h1, h2]
  rfl
theorem lay_rows : ∀ a : List (List Int), PyData.canLayAll0 (a.map fun k => PyData.tuple (k.map PyData.int)) = true ∧ PyData.depthAll (a.map fun k => PyData.tuple (k.map PyData.int)) ≤ 1
  | [] => by rw [List.map_nil, PyData.canLayAll0, PyData.depthAll]; exact ⟨rfl, by omega⟩
  | x :: a => by
    obtain ⟨h1, h2⟩ := lay_rows a
    obtain ⟨h3, h4⟩ := lay_ints x
    rw [List.map_cons, PyData.canLayAll0, PyData.depthAll, h1, PyData.canLay0, PyData.depth, h3, h4]
    exact ⟨rfl, by omega⟩
theorem shaped_rows (a : List (List Int)) : SeqAt.shaped (.list (a.map fun k => PyData.tuple (k.map PyData.int))) = true := by
  obtain ⟨h1, h2⟩ := lay_rows a
  unfold SeqAt.shaped
  rw [PyData.canLay0, PyData.depth, h1, decide_eq_true (show _ ≤ 64 by omega)]
  rfl
theorem cmpEq_tT {neg : Bool} {a b : List Int} {st : Sto} : cmpEq neg (tT a) (tT b) st = some (.bl (decide (a = b) != neg), st) := by
  unfold cmpEq
  show (match (tT a).toD st.cs, (tT b).toD st.cs with | some d, some e => if SeqAt.shaped d && SeqAt.shaped e then some (PV.bl (PyData.eqv d e != neg), st) else none | _, _ => none) = _
  rw [toD_tT, toD_tT]
  show (if SeqAt.shaped (.tuple (a.map PyData.int)) && SeqAt.shaped (.tuple (b.map PyData.int)) then _ else _) = _
  rw [shaped_tT, shaped_tT, eqv_tT]
  rfl
theorem cmpEq_rows {neg : Bool} {x y : PV} {as bs : List (List Int)} {st : Sto} (h1 : derf st x = .lst (as.map tT)) (h2 : derf st y = .lst (bs.map tT)) : cmpEq neg x y st = some (.bl (decide (as = bs) != neg), st) := by
  unfold cmpEq
  rw [h1, h2, PV.toD, PV.toD, toDs_rows, toDs_rows]
  show (if SeqAt.shaped (.list (as.map fun k => PyData.tuple (k.map PyData.int))) && SeqAt.shaped (.list (bs.map fun k => PyData.tuple (k.map PyData.int))) then some (PV.bl (PyData.eqv (.list (as.map fun k => PyData.tuple (k.map PyData.int))) (.list (bs.map fun k => PyData.tuple (k.map PyData.int))) != neg), st) else none) = _
  rw [shaped_rows, shaped_rows, PyData.eqv, eqvA_rows]
  rfl
theorem seq_lst {st : Sto} {y : PV} {xs : List PV} (h : lstOf st y = some xs) : seqOf st y = some xs := by
  cases y with
  | lst ys => exact h
  | loc l => exact h
  | _ => cases h
/-! E2: == and in over rows of any make -/
structure EqE (α : Type) [DecidableEq α] where
  p : α → PV
  d : α → PyData
  m : Nat
  pd : ∀ (a : α) (cs : Nat → Option Cell), (p a).toD cs = some (d a)
  lay : ∀ a, (d a).canLay0 = true
  dep : ∀ a, (d a).depth ≤ m
  eq : ∀ a b, (d a).eqv (d b) = decide (a = b)
namespace EqE
variable {α β γ : Type} [DecidableEq α] [DecidableEq β] [DecidableEq γ] (E : EqE α) (F : EqE β) (G : EqE γ)
theorem toDs_eq {cs : Nat → Option Cell} : ∀ l : List α, toDs cs (l.map E.p) = some (l.map E.d)
  | [] => by rw [List.map_nil, toDs]; rfl
  | a :: l => by rw [List.map_cons, toDs, E.pd, toDs_eq l]; rfl
theorem lay_all : ∀ l : List α, PyData.canLayAll0 (l.map E.d) = true
  | [] => by rw [List.map_nil, PyData.canLayAll0]
  | a :: l => by rw [List.map_cons, PyData.canLayAll0, E.lay, lay_all l]; rfl
theorem dep_all : ∀ l : List α, PyData.depthAll (l.map E.d) ≤ E.m
  | [] => by rw [List.map_nil, PyData.depthAll]; exact Nat.zero_le _
  | a :: l => by
    rw [List.map_cons, PyData.depthAll]
    have := E.dep a
    have := dep_all l
    omega
theorem eqv_all : ∀ a b : List α, PyData.eqvAll (a.map E.d) (b.map E.d) = decide (a = b)
  | [], [] => by rw [List.map_nil, PyData.eqvAll]; rfl
  | [], y :: b => by rw [List.map_nil, List.map_cons, PyData.eqvAll]; rfl
  | x :: a, [] => by rw [List.map_nil, List.map_cons, PyData.eqvAll]; rfl
  | x :: a, y :: b => by
    rw [List.map_cons, List.map_cons, PyData.eqvAll, E.eq, eqv_all a b]
    by_cases h : x = y
    · subst h; simp
    · simp [h]
def int : EqE Int where
  p := .int
  d := .int
  m := 0
  pd := fun a cs => by rw [PV.toD]
  lay := fun a => by rw [PyData.canLay0]
  dep := fun a => by rw [PyData.depth]; exact Nat.le_refl _
  eq := fun a b => by rw [PyData.eqv]; by_cases h : a = b <;> simp [h]
def tup : EqE (List α) where
  p := fun l => .tup (l.map E.p)
  d := fun l => .tuple (l.map E.d)
  m := E.m + 1
  pd := fun a cs => by rw [PV.toD, E.toDs_eq]; rfl
  lay := fun a => by rw [PyData.canLay0, E.lay_all]
  dep := fun a => by rw [PyData.depth]; have := E.dep_all a; omega
  eq := fun a b => by rw [PyData.eqv, E.eqv_all]
def list : EqE (List α) where
  p := fun l => .lst (l.map E.p)
  d := fun l => .list (l.map E.d)
  m := E.m + 1
  pd := fun a cs => by rw [PV.toD, E.toDs_eq]; rfl
  lay := fun a => by rw [PyData.canLay0, E.lay_all]
  dep := fun a => by rw [PyData.depth]; have := E.dep_all a; omega
  eq := fun a b => by rw [PyData.eqv, E.eqv_all]
def pair : EqE (α × β) where
  p := fun x => .tup [E.p x.1, F.p x.2]
  d := fun x => .tuple [E.d x.1, F.d x.2]
  m := max E.m F.m + 1
  pd := fun x cs => by rw [PV.toD, toDs, toDs, toDs, E.pd, F.pd]; rfl
  lay := fun x => by rw [PyData.canLay0, PyData.canLayAll0, PyData.canLayAll0, PyData.canLayAll0, E.lay, F.lay]; rfl
  dep := fun x => by
    rw [PyData.depth, PyData.depthAll, PyData.depthAll, PyData.depthAll]
    have := E.dep x.1
    have := F.dep x.2
    omega
  eq := fun x y => by
    rw [PyData.eqv, PyData.eqvAll, PyData.eqvAll, PyData.eqvAll, E.eq, F.eq]
    by_cases h1 : x.1 = y.1
    · by_cases h2 : x.2 = y.2
      · simp [h1, h2, Prod.ext_iff]
      · simp [h1, h2, Prod.ext_iff]
    · simp [h1, Prod.ext_iff]
def tri : EqE (α × β × γ) where
  p := fun x => .tup [E.p x.1, F.p x.2.1, G.p x.2.2]
  d := fun x => .tuple [E.d x.1, F.d x.2.1, G.d x.2.2]
  m := max E.m (max F.m G.m) + 1
  pd := fun x cs => by rw [PV.toD, toDs, toDs, toDs, toDs, E.pd, F.pd, G.pd]; rfl
  lay := fun x => by rw [PyData.canLay0, PyData.canLayAll0, PyData.canLayAll0, PyData.canLayAll0, PyData.canLayAll0, E.lay, F.lay, G.lay]; rfl
  dep := fun x => by
    rw [PyData.depth, PyData.depthAll, PyData.depthAll, PyData.depthAll, PyData.depthAll]
    have := E.dep x.1
    have := F.dep x.2.1
    have := G.dep x.2.2
    omega
  eq := fun x y => by
    rw [PyData.eqv, PyData.eqvAll, PyData.eqvAll, PyData.eqvAll, PyData.eqvAll, E.eq, F.eq, G.eq]
    by_cases h1 : x.1 = y.1
    · by_cases h2 : x.2.1 = y.2.1
      · by_cases h3 : x.2.2 = y.2.2
        · simp [h1, h2, h3, Prod.ext_iff]
        · simp [h1, h2, h3, Prod.ext_iff]
      · simp [h1, h2, Prod.ext_iff]
    · simp [h1, Prod.ext_iff]
theorem derf_p {st : Sto} (a : α) : derf st (E.p a) = E.p a := by
  have h := E.pd a st.cs
  cases e : E.p a with
  | loc l => rw [e, PV.toD] at h; cases h
  | _ => rfl
theorem shaped (hm : E.m ≤ 64) (a : α) : SeqAt.shaped (E.d a) = true := by
  unfold SeqAt.shaped
  rw [E.lay, decide_eq_true (show (E.d a).depth ≤ 64 from Nat.le_trans (E.dep a) hm)]
  rfl
theorem cmpEq {neg : Bool} {x y : PV} {a b : α} {st : Sto} (h1 : derf st x = E.p a) (h2 : derf st y = E.p b) (hm : E.m ≤ 64) : DL.cmpEq neg x y st = some (.bl (decide (a = b) != neg), st) := by
  unfold DL.cmpEq
  rw [h1, h2, E.pd, E.pd]
  show (if SeqAt.shaped (E.d a) && SeqAt.shaped (E.d b) then some (PV.bl (PyData.eqv (E.d a) (E.d b) != neg), st) else none) = _
  rw [E.shaped hm, E.shaped hm, E.eq]
  rfl
theorem mem_any (a : α) : ∀ l : List α, ((l.map E.d).any fun z => PyData.eqv z (E.d a)) = decide (a ∈ l)
  | [] => rfl
  | b :: l => by
    rw [List.map_cons, List.any_cons, E.eq, mem_any a l]
    by_cases h : b = a
    · subst h; simp
    · have h2 : ¬ a = b := fun z => h z.symm
      simp [h, h2]
theorem cmpIn {neg : Bool} {y : PV} {a : α} {l : List α} {st : Sto} (h : lstOf st y = some (l.map E.p)) (hf : flatP (E.p a) = false) (hm : E.m ≤ 60) : DL.cmpIn neg (E.p a) y st = some (.bl (decide (a ∈ l) != neg), st) := by
  have hd : dctOf st y = none := by
    cases y with
    | loc l =>
      have h : (match st.cs l with | some (.lst xs) => some xs | _ => none) = _ := h
      show (match st.cs l with | some (.dct ks vs) => some (ks, vs) | _ => none) = none
      split at h
      · rename_i e; rw [e]
      · cases h
    | dct _ _ => cases h
    | _ => rfl
  have hs : seqOf st y = some (l.map E.p) := by
    cases y with
    | lst ys => exact h
    | loc l => exact h
    | _ => cases h
  unfold DL.cmpIn
  rw [hd]
  show cmpInS neg (E.p a) y st = _
  unfold cmpInS
  rw [hs]
  show (if (flatP (E.p a) && (l.map E.p).all flatP) = true then _ else _) = _
  rw [hf, Bool.false_and, if_neg Bool.false_ne_true, h]
  show (match (derf st (E.p a)).toD st.cs, toDs st.cs (l.map E.p) with | some d, some ds => if SeqAt.shaped d && SeqAt.shaped (.list ds) then some (PV.bl ((ds.any fun z => PyData.eqv z d) != neg), st) else none | _, _ => none) = _
  rw [E.derf_p, E.pd, E.toDs_eq]
  show (if SeqAt.shaped (E.d a) && SeqAt.shaped (.list (l.map E.d)) then some (PV.bl (((l.map E.d).any fun z => PyData.eqv z (E.d a)) != neg), st) else none) = _
  rw [E.shaped (by omega), show SeqAt.shaped (.list (l.map E.d)) = true from E.list.shaped (by show E.m + 1 ≤ 64; omega) l, E.mem_any]
  rfl
end EqE
/-! Ord: rows that are sorted, rows that are keys of dicts (no program) -/
/-- a kind of rows: as values, as data, as keys -/
structure Enc (α : Type) where
  p : α → PV
  d : α → PyData
  k : α → NestedKey
  pd : ∀ (a : α) (cs : Nat → Option Cell), (p a).toD cs = some (d a)
  pk : ∀ a, NK (p a) = some (k a)
  tp : ∀ a, ∃ xs, p a = .tup xs
  nt : ∀ a, noText (k a) = true
  dp : ∀ a, (k a).depth ≤ 8
  al : ∀ a b, PySem.W.alike (d a) (d b) = true
  dd : ∀ a, (d a).depth ≤ 30
  ki : ∀ a b, PySem.W.keyToks (d a) = PySem.W.keyToks (d b) → a = b
  ni : ∀ a b, k a = k b → a = b
namespace Enc
variable {α : Type} (E : Enc α)
def le (a b : α) : Bool := !PySem.W.dataLt (E.d b) (E.d a)
theorem tot (a b : α) : (E.le a b || E.le b a) = true := by
  unfold le
  cases h : PySem.W.dataLt (E.d b) (E.d a) with
  | false => rfl
  | true =>
    cases h2 : PySem.W.dataLt (E.d a) (E.d b) with
    | false => rfl
    | true =>
      have := PyProof.Rows.lex_trans _ _ _ h h2
      rw [PyProof.Rows.lex_irrefl] at this
      cases this
theorem tr (a b c : α) (h1 : E.le a b = true) (h2 : E.le b c = true) : E.le a c = true := by
  unfold le at *
  rw [Bool.not_eq_true'] at *
  cases h : PySem.W.dataLt (E.d c) (E.d a) with
  | false => rfl
  | true =>
    rcases PyProof.Rows.lex_negTrans _ (PySem.W.keyToks (E.d b)) _ h with h | h
    · have h2 : PyProof.Rows.lexLt PyProof.Rows.itemOrd (PySem.W.keyToks (E.d c)) (PySem.W.keyToks (E.d b)) = false := h2
      rw [h] at h2; cases h2
    · have h1 : PyProof.Rows.lexLt PyProof.Rows.itemOrd (PySem.W.keyToks (E.d b)) (PySem.W.keyToks (E.d a)) = false := h1
      rw [h] at h1; cases h1
theorem an {a b : α} (h1 : E.le a b = true) (h2 : E.le b a = true) : a = b := by
  unfold le at *
  rw [Bool.not_eq_true'] at *
  exact E.ki a b (PyProof.Rows.lex_total _ _ h2 h1)
theorem leP_eq (a b : α) : leP (E.p a) (E.p b) = E.le a b := by
  unfold leP
  rw [E.pd, E.pd]
  rfl
theorem toDs_eq {cs : Nat → Option Cell} : ∀ l : List α, toDs cs (l.map E.p) = some (l.map E.d)
  | [] => by rw [List.map_nil, toDs]; rfl
  | a :: l => by rw [List.map_cons, toDs, E.pd, toDs_eq l]; rfl
def sort (l : List α) : List α := l.mergeSort E.le
theorem sort_perm (l : List α) : (E.sort l).Perm l := List.mergeSort_perm _ _
theorem sort_sorted (l : List α) : (E.sort l).Pairwise fun a b => E.le a b = true := List.pairwise_mergeSort (E.tr) (E.tot) l
theorem sort_mem {l : List α} {a : α} : a ∈ E.sort l ↔ a ∈ l := (E.sort_perm l).mem_iff
theorem sort_len (l : List α) : (E.sort l).length = l.length := (E.sort_perm l).length_eq
theorem sortGo_eq {m : Bool} {l : List α} {st : Sto} (hz : l.length ≤ sizeLine) (hne : ∀ a ∈ l, ∃ x r, E.d a = .tuple (x :: r)) : sortGo m (l.map E.p) st = mkL m ((E.sort l).map E.p) st := by
  unfold sortGo
  rw [E.toDs_eq]
  have ok : okSort (l.map E.d) = true := by
    rw [okSort_iff]
    refine ⟨fun d hd d' hd' => ?_, .inl fun d hd => ?_, by rw [List.length_map]; exact hz, fun d hd => ?_⟩
    · obtain ⟨a, _, rfl⟩ := List.mem_map.mp hd
      obtain ⟨b, _, rfl⟩ := List.mem_map.mp hd'
      exact E.al a b
    · obtain ⟨a, ha, rfl⟩ := List.mem_map.mp hd
      exact hne a ha
    · obtain ⟨a, _, rfl⟩ := List.mem_map.mp hd
      exact E.dd a
  show (if okSort (l.map E.d) then mkL m ((l.map E.p).mergeSort leP) st else none) = _
  rw [if_pos ok]
  have e : (l.map E.p).mergeSort leP = (E.sort l).map E.p := by
    unfold sort
    exact (List.map_mergeSort fun a _ b _ => (E.leP_eq a b).symm).symm
  rw [e]
theorem sorted_eq {m : Bool} {l : List α} {v : PV} {st : Sto} (hv : lstOf st v = some (l.map E.p)) (hz : l.length ≤ sizeLine) (hne : ∀ a ∈ l, ∃ x r, E.d a = .tuple (x :: r)) : bSorted m [v] st = mkL m ((E.sort l).map E.p) st := by
  show (match lstOf st v with | some xs => sortGo m xs st | none => _) = _
  rw [hv]
  exact E.sortGo_eq hz hne
/-- sorted rows, each once, are what their members are -/
theorem uniq : ∀ {a b : List α}, a.Pairwise (fun x y => E.le x y = true) → b.Pairwise (fun x y => E.le x y = true) → a.Nodup → b.Nodup → (∀ x, x ∈ a ↔ x ∈ b) → a = b
  | [], [], _, _, _, _, _ => rfl
  | [], y :: b, _, _, _, _, h => absurd ((h y).mpr List.mem_cons_self) (by simp)
  | x :: a, [], _, _, _, _, h => absurd ((h x).mp List.mem_cons_self) (by simp)
  | x :: a, y :: b, sa, sb, na, nb, h => by
    rw [List.pairwise_cons] at sa sb
    rw [List.nodup_cons] at na nb
    have e : x = y := by
      rcases List.mem_cons.mp ((h x).mp List.mem_cons_self) with e | hx
      · exact e
      · rcases List.mem_cons.mp ((h y).mpr List.mem_cons_self) with e | hy
        · exact e.symm
        · exact E.an (sa.1 y hy) (sb.1 x hx)
    subst e
    rw [uniq sa.2 sb.2 na.2 nb.2 fun z => ?_]
    constructor
    · intro hz
      rcases List.mem_cons.mp ((h z).mp (List.mem_cons_of_mem _ hz)) with e | hz2
      · exact absurd (e ▸ hz) na.1
      · exact hz2
    · intro hz
      rcases List.mem_cons.mp ((h z).mpr (List.mem_cons_of_mem _ hz)) with e | hz2
      · exact absurd (e ▸ hz) nb.1
      · exact hz2
theorem isTK_eq (a : α) : isTK (E.p a) = true := by
  obtain ⟨xs, hx⟩ := E.tp a
  have h := E.pk a
  rw [hx] at h ⊢
  show (match NK (.tup xs) with | some k => noText k && decide (k.depth ≤ 8) | none => false) = true
  rw [h]
  show (noText (E.k a) && decide ((E.k a).depth ≤ 8)) = true
  rw [E.nt, decide_eq_true (E.dp a)]; rfl
theorem good (l : List α) (a : α) : goodK (l.map E.p) (E.p a) = true := by
  rw [goodK_iff]
  refine ⟨fun x hx => ?_, E.isTK_eq a⟩
  obtain ⟨b, _, rfl⟩ := List.mem_map.mp hx
  exact E.isTK_eq b
theorem keyEq_eq [DecidableEq α] (a b : α) : keyEq (E.p a) (E.p b) = decide (a = b) := by
  rw [keyEq_iff (E.pk a) (E.pk b)]
  by_cases h : a = b
  · subst h; simp
  · rw [decide_eq_false h, decide_eq_false fun z => h (E.ni a b z)]
theorem lb0 (a : α) : (E.p a).lb 0 = true := nk_lb (E.pk a)
theorem lb (a : α) {n : Nat} : (E.p a).lb n = true := PV.lb_mono (Nat.zero_le _) (E.lb0 a)
end Enc
/-! tables -/
section
variable {α β : Type} [DecidableEq α]
def aget (k : α) : List (α × β) → Option β
  | [] => none
  | x :: r => if x.1 = k then some x.2 else aget k r
def aput (k : α) (v : β) : List (α × β) → List (α × β)
  | [] => [(k, v)]
  | x :: r => if x.1 = k then (x.1, v) :: r else x :: aput k v r
theorem aget_put (k j : α) (v : β) : ∀ D : List (α × β), aget j (aput k v D) = if k = j then some v else aget j D
  | [] => by
    show (if k = j then some v else none) = _
    rfl
  | x :: r => by
    show aget j (if x.1 = k then (x.1, v) :: r else x :: aput k v r) = _
    by_cases e : x.1 = k
    · rw [if_pos e]
      subst e
      show (if x.1 = j then some v else aget j r) = (if x.1 = j then some v else if x.1 = j then some x.2 else aget j r)
      by_cases f : x.1 = j
      · rw [if_pos f, if_pos f]
      · rw [if_neg f, if_neg f, if_neg f]
    · rw [if_neg e]
      show (if x.1 = j then some x.2 else aget j (aput k v r)) = (if k = j then some v else if x.1 = j then some x.2 else aget j r)
      rw [aget_put k j v r]
      by_cases f : x.1 = j
      · rw [if_pos f, if_pos f, if_neg (fun z => e (f.trans z.symm))]
      · rw [if_neg f, if_neg f]
theorem akeys_put (k : α) (v : β) : ∀ D : List (α × β), ∀ j, j ∈ (aput k v D).map (·.1) ↔ j = k ∨ j ∈ D.map (·.1)
  | [], j => by
    show j ∈ [k] ↔ _
    simp
  | x :: r, j => by
    show j ∈ (if x.1 = k then (x.1, v) :: r else x :: aput k v r).map (·.1) ↔ _
    by_cases e : x.1 = k
    · rw [if_pos e, List.map_cons, List.map_cons, List.mem_cons]
      subst e
      constructor
      · intro h; exact .inr h
      · intro h
        rcases h with h | h
        · exact .inl h
        · exact h
    · rw [if_neg e, List.map_cons, List.map_cons, List.mem_cons, List.mem_cons, akeys_put k v r j]
      constructor
      · rintro (h | h | h)
        · exact .inr (.inl h)
        · exact .inl h
        · exact .inr (.inr h)
      · rintro (h | h | h)
        · exact .inr (.inl h)
        · exact .inl h
        · exact .inr (.inr h)
theorem anodup_put (k : α) (v : β) : ∀ D : List (α × β), (D.map (·.1)).Nodup → ((aput k v D).map (·.1)).Nodup
  | [], _ => by
    show [k].Nodup
    simp
  | x :: r, h => by
    rw [List.map_cons, List.nodup_cons] at h
    show ((if x.1 = k then (x.1, v) :: r else x :: aput k v r).map (·.1)).Nodup
    by_cases e : x.1 = k
    · rw [if_pos e, List.map_cons, List.nodup_cons]
      exact h
    · rw [if_neg e, List.map_cons, List.nodup_cons]
      refine ⟨fun z => ?_, anodup_put k v r h.2⟩
      rcases (akeys_put k v r _).mp z with z | z
      · exact e z
      · exact h.1 z
theorem aput_len (k : α) (v : β) : ∀ D : List (α × β), (aput k v D).length ≤ D.length + 1
  | [] => Nat.le_refl _
  | x :: r => by
    show (if x.1 = k then (x.1, v) :: r else x :: aput k v r).length ≤ _
    split
    · rw [List.length_cons, List.length_cons]; omega
    · have := aput_len k v r
      rw [List.length_cons, List.length_cons]; omega
theorem aget_mem {k : α} : ∀ {D : List (α × β)}, (aget k D).isSome = true ↔ k ∈ D.map (·.1)
  | [] => by simp [aget]
  | x :: r => by
    show (if x.1 = k then some x.2 else aget k r).isSome = true ↔ _
    rw [List.map_cons, List.mem_cons]
    by_cases e : x.1 = k
    · rw [if_pos e]
      exact ⟨fun _ => .inl e.symm, fun _ => rfl⟩
    · rw [if_neg e, aget_mem (D := r)]
      exact ⟨.inr, fun h => h.resolve_left fun z => e z.symm⟩
variable (E : Enc α) (vp : β → PV)
def akP (D : List (α × β)) : List PV := D.map fun x => E.p x.1
def avP (D : List (α × β)) : List PV := D.map fun x => vp x.2
theorem akP_map (D : List (α × β)) : akP E D = (D.map (·.1)).map E.p := by unfold akP; rw [List.map_map]; rfl
theorem ak_good (D : List (α × β)) (k : α) : goodK (akP E D) (E.p k) = true := by rw [akP_map]; exact E.good _ k
theorem ak_len (D : List (α × β)) : (akP E D).length = D.length := List.length_map _
theorem dlook_eq (k : α) : ∀ D : List (α × β), dlook (akP E D) (avP vp D) (E.p k) = (aget k D).map vp
  | [] => rfl
  | x :: r => by
    show (if keyEq (E.p x.1) (E.p k) then some (vp x.2) else dlook (akP E r) (avP vp r) (E.p k)) = (if x.1 = k then some x.2 else aget k r).map vp
    rw [E.keyEq_eq]
    by_cases e : x.1 = k
    · rw [if_pos (decide_eq_true e), if_pos e]; rfl
    · rw [if_neg (by rw [decide_eq_false e]; decide), if_neg e]
      exact dlook_eq k r
theorem dput_eq (k : α) (v : β) : ∀ D : List (α × β), dput (akP E D) (avP vp D) (E.p k) (vp v) = (akP E (aput k v D), avP vp (aput k v D))
  | [] => rfl
  | x :: r => by
    show (if keyEq (E.p x.1) (E.p k) then (E.p x.1 :: akP E r, vp v :: avP vp r) else (E.p x.1 :: (dput (akP E r) (avP vp r) (E.p k) (vp v)).1, vp x.2 :: (dput (akP E r) (avP vp r) (E.p k) (vp v)).2)) = _
    rw [E.keyEq_eq, dput_eq k v r]
    show _ = (akP E (if x.1 = k then (x.1, v) :: r else x :: aput k v r), avP vp (if x.1 = k then (x.1, v) :: r else x :: aput k v r))
    by_cases e : x.1 = k
    · rw [if_pos (decide_eq_true e), if_pos e]; rfl
    · rw [if_neg (by rw [decide_eq_false e]; decide), if_neg e]; rfl
theorem ak_lb (D : List (α × β)) {n : Nat} : lbs n (akP E D) = true := lbs_map (fun x => E.lb x.1) D
end
/-! rows of ints -/
theorem toks_ints : ∀ (a b : List Int) (x y : List (Int ⊕ List Nat)), PySem.W.keyToksAll (a.map PyData.int) ++ x = PySem.W.keyToksAll (b.map PyData.int) ++ y → a = b ∧ x = y
  | [], [], x, y, h => by
    rw [List.map_nil, PySem.W.keyToksAll] at h
    exact ⟨rfl, (List.cons.inj h).2⟩
  | [], y :: b, _, _, h => by
    rw [List.map_nil, List.map_cons, PySem.W.keyToksAll, PySem.W.keyToksAll] at h
    exact absurd (List.cons.inj h).1 (by decide)
  | x :: a, [], _, _, h => by
    rw [List.map_nil, List.map_cons, PySem.W.keyToksAll, PySem.W.keyToksAll] at h
    exact absurd (List.cons.inj h).1 (by decide)
  | x :: a, y :: b, u, v, h => by
    rw [List.map_cons, List.map_cons, PySem.W.keyToksAll, PySem.W.keyToksAll, PySem.W.keyToks, PySem.W.keyToks] at h
    have h := (List.cons.inj h).2
    have h1 := List.cons.inj h
    obtain ⟨e1, e2⟩ := toks_ints a b u v h1.2
    have e3 : x = y := Sum.inl.inj h1.1
    rw [e1, e3]; exact ⟨rfl, e2⟩
theorem NKs_ints : ∀ a : List Int, NKs (a.map .int) = some (a.map NestedKey.num)
  | [] => by rw [List.map_nil, NKs]; rfl
  | x :: a => by rw [List.map_cons, NKs, NK, NKs_ints a]; rfl
theorem noTexts_ints : ∀ a : List Int, noTexts (a.map NestedKey.num) = true
  | [] => by rw [List.map_nil, noTexts]
  | x :: a => by rw [List.map_cons, noTexts, noText, noTexts_ints a]; rfl
theorem num_inj : ∀ {a b : List Int}, a.map NestedKey.num = b.map NestedKey.num → a = b
  | [], [], _ => rfl
  | [], _ :: _, h => by cases h
  | _ :: _, [], h => by cases h
  | x :: a, y :: b, h => by
    rw [List.map_cons, List.map_cons] at h
    have h := List.cons.inj h
    rw [num_inj h.2, NestedKey.num.inj h.1]
theorem alike_ints : ∀ a b : List Int, PySem.W.alikeAll (a.map PyData.int) (b.map PyData.int) = true
  | [], _ => by rw [List.map_nil, PySem.W.alikeAll]
  | x :: a, [] => by rw [List.map_cons, List.map_nil, PySem.W.alikeAll]
  | x :: a, y :: b => by rw [List.map_cons, List.map_cons, PySem.W.alikeAll, PySem.W.alike, alike_ints a b]; rfl
theorem depth_ints : ∀ a : List Int, PyData.depthAll (a.map PyData.int) = 0
  | [] => by rw [List.map_nil, PyData.depthAll]
  | x :: a => by rw [List.map_cons, PyData.depthAll, PyData.depth, depth_ints a]; rfl
theorem kdepth_ints : ∀ a : List Int, NestedKey.depthAll (a.map NestedKey.num) = 0
  | [] => by rw [List.map_nil, NestedKey.depthAll]
  | x :: a => by rw [List.map_cons, NestedKey.depthAll, NestedKey.depth, kdepth_ints a]; rfl
def tD (a : List Int) : PyData := .tuple (a.map .int)
def tK (a : List Int) : NestedKey := .tup (a.map .num)
theorem tK_eq (a : List Int) : NK (tT a) = some (tK a) := by
  unfold tT tK
  rw [NK, NKs_ints]; rfl
def rE : Enc (List Int) where
  p := tT
  d := tD
  k := tK
  pd := fun a cs => toD_tT
  pk := tK_eq
  tp := fun a => ⟨_, rfl⟩
  nt := fun a => by unfold tK; rw [noText, noTexts_ints]
  dp := fun a => by unfold tK; rw [NestedKey.depth, kdepth_ints]; decide
  al := fun a b => by unfold tD; rw [PySem.W.alike, alike_ints]
  dd := fun a => by unfold tD; rw [PyData.depth, depth_ints]; decide
  ki := fun a b h => by
    unfold tD at h
    rw [PySem.W.keyToks, PySem.W.keyToks] at h
    exact (toks_ints a b [] [] (by rw [h])).1
  ni := fun a b h => num_inj (NestedKey.tup.inj h)
/-- a time and a record -/
abbrev Key := List Int × List Int
def kP (k : Key) : PV := .tup [tT k.1, tT k.2]
def kE : Enc Key where
  p := kP
  d := fun k => .tuple [tD k.1, tD k.2]
  k := fun k => .tup [tK k.1, tK k.2]
  pd := fun k cs => by
    unfold kP
    rw [PV.toD, toDs, toDs, toDs, toD_tT, toD_tT]
    rfl
  pk := fun k => by
    unfold kP
    rw [NK, NKs, NKs, NKs, tK_eq, tK_eq]; rfl
  tp := fun k => ⟨_, rfl⟩
  nt := fun k => by rw [noText, noTexts, noTexts, noTexts, show noText (tK k.1) = true from rE.nt k.1, show noText (tK k.2) = true from rE.nt k.2]; rfl
  dp := fun k => by
    rw [NestedKey.depth, NestedKey.depthAll, NestedKey.depthAll, NestedKey.depthAll]
    have h1 : (tK k.1).depth ≤ 1 := by unfold tK; rw [NestedKey.depth, kdepth_ints]; decide
    have h2 : (tK k.2).depth ≤ 1 := by unfold tK; rw [NestedKey.depth, kdepth_ints]; decide
    omega
  al := fun a b => by rw [PySem.W.alike, PySem.W.alikeAll, PySem.W.alikeAll, PySem.W.alikeAll, show PySem.W.alike (tD a.1) (tD b.1) = true from rE.al a.1 b.1, show PySem.W.alike (tD a.2) (tD b.2) = true from rE.al a.2 b.2]; rfl
  dd := fun k => by
    rw [PyData.depth, PyData.depthAll, PyData.depthAll, PyData.depthAll]
    have h1 : (tD k.1).depth ≤ 1 := by unfold tD; rw [PyData.depth, depth_ints]; decide
    have h2 : (tD k.2).depth ≤ 1 := by unfold tD; rw [PyData.depth, depth_ints]; decide
    omega
  ki := fun a b h => by
    rw [PySem.W.keyToks, PySem.W.keyToks, PySem.W.keyToksAll, PySem.W.keyToksAll, PySem.W.keyToksAll, PySem.W.keyToksAll, PySem.W.keyToksAll, PySem.W.keyToksAll] at h
    unfold tD at h
    rw [PySem.W.keyToks, PySem.W.keyToks, PySem.W.keyToks, PySem.W.keyToks] at h
    have h := (List.cons.inj h).2
    obtain ⟨e1, h⟩ := toks_ints _ _ _ _ h
    have h := (List.cons.inj h).2
    obtain ⟨e2, _⟩ := toks_ints _ _ _ _ h
    exact Prod.ext e1 e2
  ni := fun a b h => by
    have h := NestedKey.tup.inj h
    have h1 := List.cons.inj h
    have h2 := List.cons.inj h1.2
    exact Prod.ext (rE.ni _ _ h1.1) (rE.ni _ _ h2.1)
end DL

namespace DL
open PySem L2
/-! P of k10: lists of changes, plainly -/
abbrev Chg := List Int × List Int × Int
def rowE : EqE (List Int) := EqE.int.tup
def chE : EqE Chg := rowE.tri rowE EqE.int
def chP (x : Chg) : PV := .tup [tT x.1, tT x.2.1, .int x.2.2]
theorem chE_p : chE.p = chP := rfl
def ind (b : Bool) : Int := if b then 1 else 0
def wt (g : List Int → List Int → Int) (L : List Chg) : Int := (L.map fun x => x.2.2 * g x.1 x.2.1).sum
theorem wt_nil (g : List Int → List Int → Int) : wt g [] = 0 := rfl
theorem wt_cons (g : List Int → List Int → Int) (x : Chg) (L : List Chg) : wt g (x :: L) = x.2.2 * g x.1 x.2.1 + wt g L := by unfold wt; rw [List.map_cons, List.sum_cons]
theorem wt_app (g : List Int → List Int → Int) : ∀ (L M : List Chg), wt g (L ++ M) = wt g L + wt g M
  | [], M => by rw [List.nil_append, wt_nil, Int.zero_add]
  | x :: L, M => by rw [List.cons_append, wt_cons, wt_cons, wt_app g L M, Int.add_assoc]
theorem wt_congr {g h : List Int → List Int → Int} : ∀ {L : List Chg}, (∀ x ∈ L, g x.1 x.2.1 = h x.1 x.2.1) → wt g L = wt h L
  | [], _ => rfl
  | x :: L, e => by rw [wt_cons, wt_cons, e x List.mem_cons_self, wt_congr fun y hy => e y (List.mem_cons_of_mem _ hy)]
def kInd (k : Key) (r t : List Int) : Int := ind (decide (t = k.1) && decide (r = k.2))
def tot (L : List Chg) (k : Key) : Int := wt (kInd k) L
def keyOf (x : Chg) : Key := (x.2.1, x.1)
theorem kInd_key (k : Key) (x : Chg) : kInd k x.1 x.2.1 = ind (decide (keyOf x = k)) := by
  unfold kInd keyOf
  congr 1
  by_cases h1 : x.2.1 = k.1
  · by_cases h2 : x.1 = k.2
    · simp [h1, h2]
    · simp [h1, h2, Prod.ext_iff]
  · simp [h1, Prod.ext_iff]
theorem tot_cons (x : Chg) (L : List Chg) (k : Key) : tot (x :: L) k = (if keyOf x = k then x.2.2 else 0) + tot L k := by
  unfold tot
  rw [wt_cons, kInd_key]
  by_cases h : keyOf x = k
  · rw [decide_eq_true h, if_pos h]; unfold ind; rw [if_pos rfl, Int.mul_one]
  · rw [decide_eq_false h, if_neg h]; unfold ind; rw [if_neg (by decide), Int.mul_zero]
theorem tot_app (L M : List Chg) (k : Key) : tot (L ++ M) k = tot L k + tot M k := wt_app _ L M
theorem tot_zero {k : Key} : ∀ {L : List Chg}, k ∉ L.map keyOf → tot L k = 0
  | [], _ => rfl
  | x :: L, h => by
    rw [List.map_cons, List.mem_cons, not_or] at h
    rw [tot_cons, if_neg (fun e => h.1 e.symm), tot_zero h.2]; rfl
/-! each once -/
def uq {α : Type} [DecidableEq α] : List α → List α
  | [] => []
  | x :: r => if x ∈ r then uq r else x :: uq r
theorem uq_mem {α : Type} [DecidableEq α] {a : α} : ∀ {l : List α}, a ∈ uq l ↔ a ∈ l
  | [] => Iff.rfl
  | x :: r => by
    show a ∈ (if x ∈ r then uq r else x :: uq r) ↔ _
    split
    · rename_i h
      rw [uq_mem (l := r), List.mem_cons]
      exact ⟨.inr, fun z => z.elim (fun e => e ▸ h) id⟩
    · rw [List.mem_cons, List.mem_cons, uq_mem (l := r)]
theorem uq_nodup {α : Type} [DecidableEq α] : ∀ l : List α, (uq l).Nodup
  | [] => .nil
  | x :: r => by
    show (if x ∈ r then uq r else x :: uq r).Nodup
    split
    · exact uq_nodup r
    · rename_i h
      rw [List.nodup_cons]
      exact ⟨fun z => h (uq_mem.mp z), uq_nodup r⟩
theorem uq_len {α : Type} [DecidableEq α] : ∀ l : List α, (uq l).length ≤ l.length
  | [] => Nat.le_refl _
  | x :: r => by
    have := uq_len r
    show (if x ∈ r then uq r else x :: uq r).length ≤ _
    split
    · rw [List.length_cons]; omega
    · rw [List.length_cons, List.length_cons]; omega
/-! the tidy list -/
def mkC (f : Key → Int) (k : Key) : Chg := (k.2, k.1, f k)
def canonK (S : List Key) (f : Key → Int) : List Chg := (S.filter fun k => decide (f k ≠ 0)).map (mkC f)
def Srt {α : Type} (E : Enc α) (S : List α) : Prop := S.Pairwise (fun a b => E.le a b = true) ∧ S.Nodup
theorem Srt.filter {α : Type} {E : Enc α} {S : List α} (h : Srt E S) (p : α → Bool) : Srt E (S.filter p) := ⟨h.1.filter _, h.2.filter _⟩
theorem Srt.of {α : Type} {E : Enc α} {l : List α} (h : l.Nodup) : Srt E (E.sort l) := ⟨E.sort_sorted l, (E.sort_perm l).nodup_iff.mpr h⟩
theorem canonK_uniq {S S' : List Key} {f f' : Key → Int} (s : Srt kE S) (s' : Srt kE S') (hf : ∀ k, f k = f' k) (hs : ∀ k, f k ≠ 0 → k ∈ S) (hs' : ∀ k, f' k ≠ 0 → k ∈ S') : canonK S f = canonK S' f' := by
  have e : f = f' := funext hf
  subst e
  unfold canonK
  congr 1
  refine kE.uniq (s.filter _).1 (s'.filter _).1 (s.filter _).2 (s'.filter _).2 fun k => ?_
  rw [List.mem_filter, List.mem_filter, decide_eq_true_iff]
  exact ⟨fun h => ⟨hs' k h.2, h.2⟩, fun h => ⟨hs k h.2, h.2⟩⟩
def canon (L : List Chg) : List Chg := canonK (kE.sort (uq (L.map keyOf))) (tot L)
theorem canon_supp {L : List Chg} {k : Key} (h : tot L k ≠ 0) : k ∈ kE.sort (uq (L.map keyOf)) := by
  rw [kE.sort_mem, uq_mem]
  apply Classical.byContradiction
  intro z
  exact h (tot_zero z)
theorem canon_of {S : List Key} {f : Key → Int} {L : List Chg} (s : Srt kE S) (hf : ∀ k, f k = tot L k) (hs : ∀ k, tot L k ≠ 0 → k ∈ S) : canonK S f = canon L :=
  canonK_uniq s (.of (uq_nodup _)) hf (fun k h => hs k (by rw [← hf k]; exact h)) fun k h => canon_supp h
theorem canon_eq {L M : List Chg} (h : ∀ k, tot L k = tot M k) : canon L = canon M := canon_of (.of (uq_nodup _)) h fun k z => canon_supp (by rw [h k]; exact z)
theorem canon_mem {L : List Chg} {x : Chg} : x ∈ canon L ↔ x.2.2 = tot L (keyOf x) ∧ x.2.2 ≠ 0 := by
  unfold canon canonK
  rw [List.mem_map]
  constructor
  · rintro ⟨k, hk, rfl⟩
    rw [List.mem_filter, decide_eq_true_iff] at hk
    exact ⟨rfl, hk.2⟩
  · rintro ⟨h1, h2⟩
    refine ⟨keyOf x, ?_, ?_⟩
    · rw [List.mem_filter, decide_eq_true_iff]
      rw [h1] at h2
      exact ⟨canon_supp h2, h2⟩
    · unfold mkC
      rw [← h1]; rfl
theorem canon_inj {L M : List Chg} (h : canon L = canon M) (k : Key) : tot L k = tot M k := by
  have key : ∀ {L M : List Chg}, canon L = canon M → tot L k ≠ 0 → tot L k = tot M k := fun {L M} h z => by
    have : (k.2, k.1, tot L k) ∈ canon L := canon_mem.mpr ⟨rfl, z⟩
    rw [h] at this
    exact (canon_mem.mp this).1
  by_cases z : tot L k = 0
  · by_cases y : tot M k = 0
    · rw [z, y]
    · exact (key h.symm y).symm
  · exact key h z
theorem canon_len (L : List Chg) : (canon L).length ≤ L.length := by
  unfold canon canonK
  rw [List.length_map]
  refine Nat.le_trans (List.length_filter_le _ _) ?_
  rw [kE.sort_len]
  refine Nat.le_trans (uq_len _) ?_
  rw [List.length_map]; exact Nat.le_refl _
/-! sums over keys -/
theorem sum_add {α : Type} (a b : α → Int) : ∀ S : List α, (S.map fun k => a k + b k).sum = (S.map a).sum + (S.map b).sum
  | [] => rfl
  | k :: S => by
    rw [List.map_cons, List.map_cons, List.map_cons, List.sum_cons, List.sum_cons, List.sum_cons, sum_add a b S]; omega
theorem sum_zero {α : Type} (a : α → Int) : ∀ {S : List α}, (∀ k ∈ S, a k = 0) → (S.map a).sum = 0
  | [], _ => rfl
  | k :: S, h => by rw [List.map_cons, List.sum_cons, h k List.mem_cons_self, sum_zero a fun x hx => h x (List.mem_cons_of_mem _ hx)]; rfl
theorem sum_one {α : Type} [DecidableEq α] (a : α → Int) (k0 : α) : ∀ {S : List α}, S.Nodup → k0 ∈ S → (∀ k ∈ S, k ≠ k0 → a k = 0) → (S.map a).sum = a k0
  | [], _, h, _ => by cases h
  | k :: S, nd, h, z => by
    rw [List.nodup_cons] at nd
    rw [List.map_cons, List.sum_cons]
    by_cases e : k = k0
    · subst e
      rw [sum_zero a fun x hx => z x (List.mem_cons_of_mem _ hx) (fun e => nd.1 (e ▸ hx)), Int.add_zero]
    · rw [z k List.mem_cons_self e, Int.zero_add]
      exact sum_one a k0 nd.2 ((List.mem_cons.mp h).resolve_left fun e' => e e'.symm) fun x hx => z x (List.mem_cons_of_mem _ hx)
theorem wt_keys (g : List Int → List Int → Int) {S : List Key} (nd : S.Nodup) : ∀ {L : List Chg}, (∀ k ∈ L.map keyOf, k ∈ S) → (S.map fun k => tot L k * g k.2 k.1).sum = wt g L
  | [], _ => by rw [wt_nil]; exact sum_zero _ fun k _ => by rw [show tot [] k = 0 from rfl, Int.zero_mul]
  | x :: L, h => by
    have e : (fun k : Key => tot (x :: L) k * g k.2 k.1) = fun k => ((if keyOf x = k then x.2.2 else 0) * g k.2 k.1) + tot L k * g k.2 k.1 := by
      funext k
      rw [tot_cons, Int.add_mul]
    rw [e, sum_add, wt_keys g nd fun k hk => h k (by rw [List.map_cons]; exact List.mem_cons_of_mem _ hk), wt_cons]
    rw [sum_one _ (keyOf x) nd (h _ (by rw [List.map_cons]; exact List.mem_cons_self)) fun k _ hk => by rw [if_neg (fun e => hk e.symm), Int.zero_mul]]
    rw [if_pos rfl]; rfl
theorem sum_filter {α : Type} (a : α → Int) (p : α → Bool) : ∀ {S : List α}, (∀ k ∈ S, p k = false → a k = 0) → ((S.filter p).map a).sum = (S.map a).sum
  | [], _ => rfl
  | k :: S, h => by
    rw [List.filter_cons]
    have ih := sum_filter a p (S := S) fun x hx => h x (List.mem_cons_of_mem _ hx)
    cases e : p k with
    | true => rw [if_pos rfl, List.map_cons, List.map_cons, List.sum_cons, List.sum_cons, ih]
    | false => rw [if_neg (by decide), List.map_cons, List.sum_cons, ih, h k List.mem_cons_self e, Int.zero_add]
theorem wt_canon (g : List Int → List Int → Int) (L : List Chg) : wt g (canon L) = wt g L := by
  rw [← wt_keys g (S := kE.sort (uq (L.map keyOf))) ((kE.sort_perm _).nodup_iff.mpr (uq_nodup _)) (L := L) fun k hk => by rw [kE.sort_mem, uq_mem]; exact hk]
  unfold canon canonK wt
  rw [List.map_map]
  rw [← sum_filter (fun k : Key => tot L k * g k.2 k.1) (fun k => decide (tot L k ≠ 0)) (S := kE.sort (uq (L.map keyOf))) fun k _ h => by
    have : tot L k = 0 := by simpa using h
    rw [this, Int.zero_mul]]
  rfl
/-! times moved, some dropped -/
def moved (F : List Int → Option (List Int)) (L : List Chg) : List Chg := L.filterMap fun x => (F x.2.1).map fun t => (x.1, t, x.2.2)
theorem moved_cons (F : List Int → Option (List Int)) (x : Chg) (L : List Chg) : moved F (x :: L) = (match F x.2.1 with | some t => [(x.1, t, x.2.2)] | none => []) ++ moved F L := by
  unfold moved
  rw [List.filterMap_cons]
  cases F x.2.1 <;> rfl
theorem moved_app (F : List Int → Option (List Int)) (L M : List Chg) : moved F (L ++ M) = moved F L ++ moved F M := by unfold moved; rw [List.filterMap_append]
theorem moved_len (F : List Int → Option (List Int)) (L : List Chg) : (moved F L).length ≤ L.length := List.length_filterMap_le _ _
def thr (F : List Int → Option (List Int)) (g : List Int → List Int → Int) (r t : List Int) : Int := match F t with
  | some d => g r d
  | none => 0
theorem wt_moved (F : List Int → Option (List Int)) (g : List Int → List Int → Int) : ∀ L : List Chg, wt g (moved F L) = wt (thr F g) L
  | [] => rfl
  | x :: L => by
    rw [moved_cons, wt_app, wt_moved F g L, wt_cons]
    congr 1
    unfold thr
    cases F x.2.1 with
    | none => show wt g [] = _; rw [wt_nil, Int.mul_zero]
    | some t => show wt g [(x.1, t, x.2.2)] = _; rw [wt_cons, wt_nil, Int.add_zero]
/-- alike, as far as the moved times tell -/
def Sm (F : List Int → Option (List Int)) (L M : List Chg) : Prop := ∀ g, wt (thr F g) L = wt (thr F g) M
theorem Sm.canon {F : List Int → Option (List Int)} {L M : List Chg} (h : Sm F L M) : canon (moved F L) = canon (moved F M) := canon_eq fun k => by
  unfold tot
  rw [wt_moved, wt_moved, h]
theorem Sm.refl (F : List Int → Option (List Int)) (L : List Chg) : Sm F L L := fun _ => rfl
theorem Sm.symm {F : List Int → Option (List Int)} {L M : List Chg} (h : Sm F L M) : Sm F M L := fun g => (h g).symm
theorem Sm.trans {F : List Int → Option (List Int)} {L M N : List Chg} (h : Sm F L M) (k : Sm F M N) : Sm F L N := fun g => (h g).trans (k g)
theorem Sm.can (F : List Int → Option (List Int)) (L : List Chg) : Sm F (DL.canon L) L := fun g => wt_canon _ L
theorem Sm.app {F : List Int → Option (List Int)} {L L' M M' : List Chg} (h : Sm F L L') (k : Sm F M M') : Sm F (L ++ M) (L' ++ M') := fun g => by rw [wt_app, wt_app, h, k]
theorem Sm.rot {F : List Int → Option (List Int)} (L M : List Chg) : Sm F (L ++ M) (M ++ L) := fun g => by rw [wt_app, wt_app, Int.add_comm]
theorem moved_all {F : List Int → Option (List Int)} {P : List Int → Prop} (h : ∀ t d, F t = some d → P d) : ∀ L : List Chg, ∀ x ∈ moved F L, P x.2.1
  | [], x, hx => by cases hx
  | y :: L, x, hx => by
    rw [moved_cons] at hx
    rcases List.mem_append.mp hx with hx | hx
    · cases e : F y.2.1 with
      | none => rw [e] at hx; cases hx
      | some d =>
        rw [e] at hx
        have hx : x ∈ [(y.1, d, y.2.2)] := hx
        rw [List.mem_singleton] at hx
        subst hx
        exact h _ _ e
    · exact moved_all h L x hx
/-! what is seen as of a time -/
def bagG (q r0 r t : List Int) : Int := ind (leqB t q && decide (r = r0))
def bag (L : List Chg) (q r : List Int) : Int := wt (bagG q r) L
def canonR (S : List (List Int)) (f : List Int → Int) : List (List Int × Int) := (S.filter fun r => decide (f r ≠ 0)).map fun r => (r, f r)
theorem canonR_uniq {S S' : List (List Int)} {f f' : List Int → Int} (s : Srt rE S) (s' : Srt rE S') (hf : ∀ k, f k = f' k) (hs : ∀ k, f k ≠ 0 → k ∈ S) (hs' : ∀ k, f' k ≠ 0 → k ∈ S') : canonR S f = canonR S' f' := by
  have e : f = f' := funext hf
  subst e
  unfold canonR
  congr 1
  refine rE.uniq (s.filter _).1 (s'.filter _).1 (s.filter _).2 (s'.filter _).2 fun k => ?_
  rw [List.mem_filter, List.mem_filter, decide_eq_true_iff]
  exact ⟨fun h => ⟨hs' k h.2, h.2⟩, fun h => ⟨hs k h.2, h.2⟩⟩
theorem bag_cons (x : Chg) (L : List Chg) (q r : List Int) : bag (x :: L) q r = (if leqB x.2.1 q = true ∧ x.1 = r then x.2.2 else 0) + bag L q r := by
  unfold bag
  rw [wt_cons]
  congr 1
  have e : bagG q r x.1 x.2.1 = if leqB x.2.1 q = true ∧ x.1 = r then 1 else 0 := by
    unfold bagG ind
    by_cases h1 : leqB x.2.1 q = true
    · by_cases h2 : x.1 = r
      · simp [h1, h2]
      · simp [h1, h2]
    · simp [h1]
  rw [e]
  split
  · exact Int.mul_one _
  · exact Int.mul_zero _
theorem bag_zero {q r : List Int} : ∀ {L : List Chg}, r ∉ L.map (·.1) → bag L q r = 0
  | [], _ => rfl
  | x :: L, h => by
    rw [List.map_cons, List.mem_cons, not_or] at h
    rw [bag_cons, if_neg (fun e => h.1 e.2.symm), bag_zero h.2]; rfl
def seen (L : List Chg) (q : List Int) : List (List Int × Int) := canonR (rE.sort (uq (L.map (·.1)))) (bag L q)
theorem seen_supp {L : List Chg} {q r : List Int} (h : bag L q r ≠ 0) : r ∈ rE.sort (uq (L.map (·.1))) := by
  rw [rE.sort_mem, uq_mem]
  apply Classical.byContradiction
  intro z
  exact h (bag_zero z)
theorem seen_of {S : List (List Int)} {f : List Int → Int} {L : List Chg} {q : List Int} (s : Srt rE S) (hf : ∀ r, f r = bag L q r) (hs : ∀ r, bag L q r ≠ 0 → r ∈ S) : canonR S f = seen L q :=
  canonR_uniq s (.of (uq_nodup _)) hf (fun k h => hs k (by rw [← hf k]; exact h)) fun k h => seen_supp h
theorem seen_eq {L M : List Chg} {q : List Int} (h : ∀ r, bag L q r = bag M q r) : seen L q = seen M q := seen_of (.of (uq_nodup _)) h fun k z => seen_supp (by rw [h k]; exact z)
theorem seen_mem {L : List Chg} {q : List Int} {x : List Int × Int} : x ∈ seen L q ↔ x.2 = bag L q x.1 ∧ x.2 ≠ 0 := by
  unfold seen canonR
  rw [List.mem_map]
  constructor
  · rintro ⟨k, hk, rfl⟩
    rw [List.mem_filter, decide_eq_true_iff] at hk
    exact ⟨rfl, hk.2⟩
  · rintro ⟨h1, h2⟩
    refine ⟨x.1, ?_, ?_⟩
    · rw [List.mem_filter, decide_eq_true_iff]
      rw [h1] at h2
      exact ⟨seen_supp h2, h2⟩
    · rw [← h1]
theorem seen_inj {L M : List Chg} {q : List Int} (h : seen L q = seen M q) (r : List Int) : bag L q r = bag M q r := by
  have key : ∀ {L M : List Chg}, seen L q = seen M q → bag L q r ≠ 0 → bag L q r = bag M q r := fun {L M} h z => by
    have : (r, bag L q r) ∈ seen L q := seen_mem.mpr ⟨rfl, z⟩
    rw [h] at this
    exact (seen_mem.mp this).1
  by_cases z : bag L q r = 0
  · by_cases y : bag M q r = 0
    · rw [z, y]
    · exact (key h.symm y).symm
  · exact key h z
theorem seen_len (L : List Chg) (q : List Int) : (seen L q).length ≤ L.length := by
  unfold seen canonR
  rw [List.length_map]
  refine Nat.le_trans (List.length_filter_le _ _) ?_
  rw [rE.sort_len]
  refine Nat.le_trans (uq_len _) ?_
  rw [List.length_map]; exact Nat.le_refl _
/-! lists whose bags are alike, are alike -/
theorem leqB_sum : ∀ {a b : List Int}, leqB a b = true → a = b ∨ a.sum < b.sum
  | [], [], _ => .inl rfl
  | x :: a, y :: b, h => by
    rw [leqB, Bool.and_eq_true, decide_eq_true_iff] at h
    rw [List.sum_cons, List.sum_cons]
    rcases leqB_sum h.2 with e | e
    · subst e
      by_cases q : x = y
      · subst q; exact .inl rfl
      · right; omega
    · right; omega
theorem leqB_refl : ∀ a : List Int, leqB a a = true
  | [] => rfl
  | x :: a => by rw [leqB, leqB_refl a, decide_eq_true (Int.le_refl x)]; rfl
theorem leqB_trans : ∀ {a b c : List Int}, leqB a b = true → leqB b c = true → leqB a c = true
  | [], [], [], _, _ => rfl
  | x :: a, y :: b, z :: c, h, k => by
    rw [leqB, Bool.and_eq_true, decide_eq_true_iff] at h k
    rw [leqB, leqB_trans h.2 k.2, decide_eq_true (Int.le_trans h.1 k.1)]; rfl
theorem bags_same {qs : List (List Int)} {A B : List Chg} (hq : ∀ q ∈ qs, 0 ≤ q.sum) (hA : ∀ x ∈ A, x.2.1 ∈ qs) (hB : ∀ x ∈ B, x.2.1 ∈ qs) (h : ∀ q ∈ qs, ∀ r, bag A q r = bag B q r) (k : Key) : tot A k = tot B k := by
  let S := uq ((A ++ B).map keyOf)
  have nd : S.Nodup := uq_nodup _
  have sA : ∀ k ∈ A.map keyOf, k ∈ S := fun k hk => uq_mem.mpr (by rw [List.map_append]; exact List.mem_append_left _ hk)
  have sB : ∀ k ∈ B.map keyOf, k ∈ S := fun k hk => uq_mem.mpr (by rw [List.map_append]; exact List.mem_append_right _ hk)
  have sq : ∀ k ∈ S, k.1 ∈ qs := fun k hk => by
    have hk := uq_mem.mp hk
    obtain ⟨x, hx, rfl⟩ := List.mem_map.mp hk
    rcases List.mem_append.mp hx with hx | hx
    · exact hA x hx
    · exact hB x hx
  have key : ∀ (n : Nat) (k : Key), k ∈ S → k.1.sum.toNat < n → tot A k = tot B k := by
    intro n
    induction n with
    | zero => intro k _ h; omega
    | succ n ih =>
      intro k hk hn
      have e := h k.1 (sq k hk) k.2
      unfold bag at e
      rw [← wt_keys _ nd sA, ← wt_keys _ nd sB] at e
      have e2 : (S.map fun j => tot A j * bagG k.1 k.2 j.2 j.1 + (- (tot B j * bagG k.1 k.2 j.2 j.1))).sum = 0 := by
        rw [sum_add, e]
        have : ∀ (f : Key → Int) (l : List Key), (l.map fun j => - f j).sum = - (l.map f).sum := by
          intro f l
          induction l with
          | nil => rfl
          | cons x l ih => rw [List.map_cons, List.map_cons, List.sum_cons, List.sum_cons, ih]; omega
        rw [this]; omega
      rw [sum_one _ k nd hk fun j hj hne => ?_] at e2
      · have : bagG k.1 k.2 k.2 k.1 = 1 := by
          unfold bagG ind
          rw [leqB_refl, decide_eq_true rfl]; rfl
        rw [this] at e2
        omega
      · unfold bagG ind
        by_cases h1 : leqB j.1 k.1 = true
        · by_cases h2 : j.2 = k.2
          · have hlt : j.1.sum < k.1.sum := by
              rcases leqB_sum h1 with e | e
              · exact absurd (Prod.ext e h2) hne
              · exact e
            have h0 := hq _ (sq j hj)
            rw [ih j hj (by omega)]
            omega
          · rw [h1, decide_eq_false h2]
            show tot A j * 0 + - (tot B j * 0) = 0
            omega
        · cases e : leqB j.1 k.1 with
          | true => exact absurd e h1
          | false =>
            show tot A j * 0 + - (tot B j * 0) = 0
            omega
  by_cases hk : k ∈ S
  · exact key _ k hk (Nat.lt_succ_self _)
  · rw [tot_zero fun z => hk (sA k z), tot_zero fun z => hk (sB k z)]
end DL

namespace DL
open PySem L2
local macro_rules | `(tactic| walk_at "go") => `(tactic| repeat (first | refine wp_mb ?_ | with_reducible refine wp_mul (by first | assumption | (exact okMul_iff.mpr (by omega))) ?_ | with_reducible refine wp_mod (by first | assumption | (exact okMod_iff.mpr (by omega))) ?_ | with_reducible refine wp_div (by first | assumption | (exact okDiv_iff.mpr (by omega))) ?_ | with_reducible refine wp_pow (by first | assumption | (exact okPow_iff.mpr (by decide))) ?_ | ((with_reducible refine wp_set ?_ ?_ ?_); (focus rfl); (focus first | exact tT_lb | exact lb_int _ _ | exact lb_bl _ _ | exact lb_non _ | assumption)) | refine wp_eq rfl ?_))
def Tq (n : Nat) (t : List Int) : Prop := t.length = n ∧ ∀ c ∈ t, 0 ≤ c
theorem lc_filter {α : Type} {g0 : α → PV} {its : Its} {l : List α} {p : α → Bool} {f : α → PV} {g : DG} {t : DT} {e : DE} {env : Env} {st : Sto} (hi : its.items = l.map g0) (ok : its.ok st)
    (h : ∀ a ∈ l, ∃ e1, g (g0 a) env st = some (e1, st) ∧ t e1 st = some (p a, st) ∧ (p a = true → e e1 st = some (f a, st))) : lcGo its g t e env its.items st = some ((l.filter p).map f, st) := by
  have key : ∀ xs : List α, (∀ x ∈ xs, x ∈ l) → lcGo its g t e env (xs.map g0) st = some ((xs.filter p).map f, st) := by
    intro xs
    induction xs with
    | nil => intro _; rw [List.map_nil, lcGo, if_pos ok]; rfl
    | cons x r ih =>
      intro hx
      obtain ⟨e1, h1, h2, h3⟩ := h x (hx x List.mem_cons_self)
      rw [List.map_cons, lcGo, if_pos ok, h1, mb_some, h2, mb_some, List.filter_cons]
      cases hp : p x with
      | true =>
        rw [if_pos rfl, if_pos rfl, h3 hp, mb_some, ih fun y hy => hx y (List.mem_cons_of_mem _ hy), mb_some]
        rfl
      | false =>
        rw [if_neg (by decide), if_neg (by decide)]
        exact ih fun y hy => hx y (List.mem_cons_of_mem _ hy)
  rw [hi]
  exact key l fun _ z => z
theorem lc_map {α : Type} {g0 : α → PV} {its : Its} {l : List α} {f : α → PV} {g : DG} {e : DE} {env : Env} {st : Sto} (hi : its.items = l.map g0) (ok : its.ok st)
    (h : ∀ a ∈ l, ∃ e1, g (g0 a) env st = some (e1, st) ∧ e e1 st = some (f a, st)) : lcGo its g tYes e env its.items st = some (l.map f, st) := by
  have := lc_filter (p := fun _ => true) (f := f) (t := tYes) hi ok fun a ha => by
    obtain ⟨e1, h1, h2⟩ := h a ha
    exact ⟨e1, h1, rfl, fun _ => h2⟩
  rw [List.filter_eq_self.mpr fun _ _ => rfl] at this
  exact this
theorem rows_lb {ts : List (List Int)} {b : Nat} : lbs b (ts.map tT) = true := lbs_map (fun _ => tT_lb) ts
/-! W2 of k10: tidy lists -/
theorem chE_m : chE.m ≤ 60 := by decide
theorem tup_lb {n : Nat} {xs : List PV} (h : lbs n xs = true) : (PV.tup xs).lb n = true := by rw [lb_tup]; exact h
theorem lst_lb {n : Nat} {xs : List PV} (h : lbs n xs = true) : (PV.lst xs).lb n = true := by rw [lb_lst]; exact h
theorem chP_lb {n : Nat} {x : Chg} : (chP x).lb n = true := by
  unfold chP
  refine tup_lb ?_
  rw [lbs_cons, lbs_cons, lbs_cons, lbs_nil, tT_lb, tT_lb, lb_int]; rfl
theorem chs_lb {n : Nat} {L : List Chg} : lbs n (L.map chP) = true := lbs_map (fun _ => chP_lb) L
theorem chs_lbC {n : Nat} {L : List Chg} : (Cell.lst (L.map chP)).lb n = true := chs_lb
theorem chs_lbV {n : Nat} {L : List Chg} : (PV.lst (L.map chP)).lb n = true := lst_lb chs_lb
theorem newD {env : Env} {st : Sto} : dDct0 true env st = some (.loc st.nxt, st.alloc (.dct [] [])) := by
  unfold dDct0 mkD
  rw [if_pos rfl, lbs_nil]; rfl
theorem wp_setL {x y v : PV} {st s : Sto} {env : Env} {Q : Env → Sto → Prop} (h : setL x y v st = some s) (q : Q env s) : wp ((setL x y v st).map fun s => (env, s)) Q := by
  rw [h]; exact wp_ret q
theorem getI {o : Option Int} : (o.map PV.int).getD (.int 0) = .int (o.getD 0) := by cases o <;> rfl
section
variable {α : Type} [DecidableEq α] (E : Enc α)
def dC (D : List (α × Int)) : Cell := .dct (akP E D) (avP .int D)
theorem dC_lb {D : List (α × Int)} {n : Nat} : (dC E D).lb n = true := by
  show (lbs n (akP E D) && lbs n (avP .int D)) = true
  rw [ak_lb, show lbs n (avP PV.int D) = true from lbs_map (f := fun x : α × Int => PV.int x.2) (fun x => lb_int n x.2) D]; rfl
theorem dC_get {D : List (α × Int)} {st : Sto} {l : Nat} {o e f : DE} {env : Env} {s0 s1 s2 : Sto} {k : α} (h0 : o env s0 = some (.loc l, s1)) (h1 : s1.cs l = some (dC E D)) (h2 : e env s1 = some (E.p k, s2)) (h3 : f env s2 = some (.int 0, st)) (h : st.cs l = some (dC E D)) : dGet2 o e f env s0 = some (.int ((aget k D).getD 0), st) := by
  rw [dct_get h0 h1 h2 h3 h (ak_good E D k), dlook_eq, getI]
theorem dC_set {D : List (α × Int)} {st : Sto} {l : Nat} {k : α} {c : Int} (h : st.cs l = some (dC E D)) (hz : D.length < sizeLine) : setL (.loc l) (E.p k) (.int c) st = some (st.set l (dC E (aput k c D))) := by
  rw [dct_set h (ak_good E D k) (lb_int _ _) (by rw [ak_len]; exact hz), dput_eq]; rfl
theorem dC_ix {D : List (α × Int)} {st : Sto} {l : Nat} {k : α} (h : st.cs l = some (dC E D)) (hk : k ∈ D.map (·.1)) : opIx (.loc l) (E.p k) st = some (.int ((aget k D).getD 0), st) := by
  have := aget_mem.mpr hk
  cases e : aget k D with
  | none => rw [e] at this; cases this
  | some c => exact dct_ix h (ak_good E D k) (by rw [dlook_eq, e]; rfl)
/-- sums by key -/
structure DSum (f : α → Int) (D : List (α × Int)) : Prop where
  nd : (D.map (·.1)).Nodup
  val : ∀ k, (aget k D).getD 0 = f k
theorem DSum.nil : DSum (α := α) (fun _ => 0) [] := ⟨.nil, fun _ => rfl⟩
theorem DSum.put {f g : α → Int} {D : List (α × Int)} (h : DSum f D) {k : α} {c : Int} (hg : ∀ j, g j = (if k = j then c else 0) + f j) : DSum g (aput k ((aget k D).getD 0 + c) D) := by
  refine ⟨anodup_put _ _ _ h.nd, fun j => ?_⟩
  rw [aget_put, hg]
  by_cases e : k = j
  · subst e
    rw [if_pos rfl, if_pos rfl, ← h.val k]
    show (aget k D).getD 0 + c = _
    omega
  · rw [if_neg e, if_neg e, h.val j, Int.zero_add]
theorem DSum.same {f g : α → Int} {D : List (α × Int)} (h : DSum f D) (hg : ∀ j, g j = f j) : DSum g D := ⟨h.nd, fun j => by rw [hg, h.val]⟩
theorem DSum.mem {f : α → Int} {D : List (α × Int)} (h : DSum f D) {k : α} (hk : f k ≠ 0) : k ∈ D.map (·.1) := by
  rw [← aget_mem]
  rw [← h.val k] at hk
  cases e : aget k D with
  | none => rw [e] at hk; exact absurd rfl hk
  | some _ => rfl
end
theorem take_step {α : Type} {l : List α} {k : Nat} {y : α} (hy : l[k]? = some y) : l.take (k + 1) = l.take k ++ [y] := by
  rw [List.take_add_one, hy]; rfl
theorem tot_snoc (L : List Chg) (x : Chg) (k : Key) : tot (L ++ [x]) k = (if keyOf x = k then x.2.2 else 0) + tot L k := by
  rw [tot_app, tot_cons]
  show _ + (_ + 0) = _
  omega
theorem kP_ix0 {k : Key} {st : Sto} : opIx (kP k) (.int 0) st = some (tT k.1, st) := rfl
theorem kP_ix1 {k : Key} {st : Sto} : opIx (kP k) (.int 1) st = some (tT k.2, st) := rfl
theorem chP_ix0 {x : Chg} {st : Sto} : opIx (chP x) (.int 0) st = some (tT x.1, st) := rfl
theorem chP_ix1 {x : Chg} {st : Sto} : opIx (chP x) (.int 1) st = some (tT x.2.1, st) := rfl
theorem chP_ix2 {x : Chg} {st : Sto} : opIx (chP x) (.int 2) st = some (.int x.2.2, st) := rfl
theorem lst_up {v : PV} {st : Sto} {xs : List PV} {c : Cell} (h : lstOf st v = some xs) : lstOf (st.alloc c) v = some xs := by
  cases v with
  | lst ys => exact h
  | loc l =>
    have h : (match st.cs l with | some (.lst xs) => some xs | _ => none) = some xs := h
    show (match (st.alloc c).cs l with | some (.lst xs) => some xs | _ => none) = _
    have : l ≠ st.nxt := fun e => by
      subst e
      rw [st.wf _ (Nat.le_refl _)] at h; cases h
    rw [Sto.alloc_ne this]
    exact h
  | _ => cases h
/-! W3 of k10: least_for, the law's own lists -/
theorem moved_snoc (F : List Int → Option (List Int)) (L : List Chg) (x : Chg) : moved F (L ++ [x]) = moved F L ++ (match F x.2.1 with | some t => [(x.1, t, x.2.2)] | none => []) := by
  rw [moved_app, moved_cons]
  show _ ++ (_ ++ []) = _
  rw [List.append_nil]
  all_goals cases F x.2.1 <;> rfl
theorem chs_snoc {L : List Chg} {x : Chg} : L.map chP ++ [chP x] = (L ++ [x]).map chP := by rw [List.map_append]; rfl
theorem alloc_chs {st : Sto} {L M : List Chg} : (st.alloc (.lst (L.map chP))).set st.nxt (.lst (M.map chP)) = st.alloc (.lst (M.map chP)) := Sto.alloc_set chs_lbC chs_lbC
/-! the law's own tidy list -/
theorem tot_filter (k : Key) : ∀ L : List Chg, ((L.filter fun x => decide (x.2.1 = k.1) && decide (x.1 = k.2)).map fun x => x.2.2).sum = tot L k
  | [] => rfl
  | x :: L => by
    have e : (decide (x.2.1 = k.1) && decide (x.1 = k.2)) = decide (keyOf x = k) := by
      unfold keyOf
      by_cases h1 : x.2.1 = k.1
      · by_cases h2 : x.1 = k.2
        · simp [h1, h2]
        · simp [h1, h2, Prod.ext_iff]
      · simp [h1, Prod.ext_iff]
    rw [List.filter_cons, e, tot_cons]
    by_cases h : keyOf x = k
    · rw [decide_eq_true h, if_pos rfl, if_pos h, List.map_cons, List.sum_cons, tot_filter k L]
    · rw [decide_eq_false h, if_neg (by decide), if_neg h, tot_filter k L, Int.zero_add]
theorem bSum_ints {v : PV} {l : List Int} {st : Sto} (h : lstOf st v = some (l.map .int)) : bSum [v] st = some (.int l.sum, st) := by
  show (match lstOf st v with | some xs => (match intsOf xs with | some ns => some (PV.int ns.sum, st) | none => none) | none => none) = _
  rw [h]
  show (match intsOf (l.map .int) with | some ns => some (PV.int ns.sum, st) | none => none) = _
  rw [intsOf_map]
theorem mkC_inj {f : Key → Int} {a b : Key} (h : mkC f a = mkC f b) : a = b := by
  unfold mkC at h
  have h1 := (Prod.mk.injEq _ _ _ _).mp h
  have h2 := (Prod.mk.injEq _ _ _ _).mp h1.2
  exact Prod.ext h2.1 h1.1
/-- what is made so far -/
structure Mk (f : Key → Int) (S M : List Key) : Prop where
  srt : Srt kE M
  mem : ∀ k, k ∈ M ↔ k ∈ S ∧ f k ≠ 0
theorem Mk.step {f : Key → Int} {S T : List Key} {y : Key} {M : List Key} (hs : (S ++ y :: T).Pairwise fun a b => kE.le a b = true) (h : Mk f S M) : Mk f (S ++ [y]) (if decide (f y ≠ 0) && decide (y ∉ M) then M ++ [y] else M) := by
  by_cases h1 : f y ≠ 0
  · by_cases h2 : y ∈ M
    · rw [decide_eq_false (show ¬ y ∉ M from fun z => z h2), Bool.and_false, if_neg (by decide)]
      refine ⟨h.srt, fun k => ?_⟩
      rw [h.mem k, List.mem_append, List.mem_singleton]
      exact ⟨fun z => ⟨.inl z.1, z.2⟩, fun z => ⟨z.1.elim id fun e => e ▸ ((h.mem y).mp h2).1, z.2⟩⟩
    · rw [decide_eq_true h1, decide_eq_true h2, if_pos (show (true && true) = true from rfl)]
      refine ⟨⟨?_, ?_⟩, fun k => ?_⟩
      · rw [List.pairwise_append]
        refine ⟨h.srt.1, List.pairwise_singleton _ _, fun a ha b hb => ?_⟩
        rw [List.mem_singleton] at hb
        subst hb
        rw [List.pairwise_append] at hs
        exact hs.2.2 a ((h.mem a).mp ha).1 b List.mem_cons_self
      · rw [List.nodup_append]
        refine ⟨h.srt.2, by simp, fun a ha b hb => ?_⟩
        rw [List.mem_singleton] at hb
        subst hb
        exact fun e => h2 (e ▸ ha)
      · rw [List.mem_append, List.mem_append, List.mem_singleton, h.mem k]
        constructor
        · rintro (z | rfl)
          · exact ⟨.inl z.1, z.2⟩
          · exact ⟨.inr rfl, h1⟩
        · rintro ⟨z | rfl, z2⟩
          · exact .inl ⟨z, z2⟩
          · exact .inr rfl
  · rw [decide_eq_false h1, Bool.false_and, if_neg (by decide)]
    refine ⟨h.srt, fun k => ?_⟩
    rw [h.mem k, List.mem_append, List.mem_singleton]
    exact ⟨fun z => ⟨.inl z.1, z.2⟩, fun z => ⟨z.1.elim id fun e => absurd (e ▸ z.2) h1, z.2⟩⟩
theorem Mk.done {L : List Chg} {M : List Key} (h : Mk (tot L) (kE.sort (L.map keyOf)) M) : M.map (mkC (tot L)) = canon L := by
  have := canon_of (S := M) (f := tot L) (L := L) h.srt (fun _ => rfl) fun k hk => (h.mem k).mpr ⟨by
    rw [kE.sort_mem]
    apply Classical.byContradiction
    intro z
    exact hk (tot_zero z), hk⟩
  rw [← this]
  unfold canonK
  rw [List.filter_eq_self.mpr fun k hk => by
    have := ((h.mem k).mp hk).2
    simpa using this]
theorem tidied_wp {L : List Chg} {v : PV} {st : Sto} {Q : PV → Sto → Prop} (hz : L.length ≤ 1000000) (hv : lstOf st v = some (L.map chP)) (q : Q (.loc st.nxt) (st.alloc (.lst ((canon L).map chP)))) : wp (f_law_tidied [v] st) Q := by
  unfold f_law_tidied
  refine wp_runF rfl ?_
  show wp (D_law_tidied [some v, none, none, none, none] st) _
  unfold D_law_tidied
  refine wp_mb (wp_mb (wp_mb (wp_eq rfl ?_)))
  refine wp_eq (mkM_eq (by decide) (lbs_nil _)) ?_
  have hup : ∀ c, lstOf (st.alloc c) v = some (L.map chP) := fun c => lst_up hv
  have hlne : ∀ l, v = .loc l → l ≠ st.nxt := fun l e z => by
    subst e
    subst z
    have hv : (match st.cs st.nxt with | some (.lst xs) => some xs | _ => none) = some (L.map chP) := hv
    rw [st.wf _ (Nat.le_refl _)] at hv; cases hv
  walk_at "go"
  obtain ⟨src, i1, i2⟩ := itsOf_lst (hup (.lst []))
  refine wp_eq i1 ?_
  walk_at "go"
  refine wp_eq (lc_map (its := ⟨L.map chP, src⟩) (l := L) (f := fun x => kP (keyOf x)) rfl (i2 _ fun _ _ => rfl) fun a ha => ⟨_, rfl, eq_of_wp ?_⟩) ?_
  · walk_at "go"
    exact ⟨rfl, rfl⟩
  have ek : L.map (fun x => kP (keyOf x)) = (L.map keyOf).map kE.p := by rw [List.map_map]; rfl
  rw [ek]
  refine wp_eq (mkV_eq (okL (by rw [List.length_map, List.length_map]; exact hz))) ?_
  walk_at "go"
  rw [kE.sorted_eq (l := L.map keyOf) rfl (by rw [List.length_map, sizeLine_eq]; omega) fun a _ => ⟨_, _, rfl⟩]
  have hsl : (kE.sort (L.map keyOf)).length = L.length := by rw [kE.sort_len, List.length_map]
  refine wp_eq (mkV_eq (okL (by rw [List.length_map, hsl]; exact hz))) ?_
  walk_at "go"
  refine forGo_wp (its := ⟨(kE.sort (L.map keyOf)).map kE.p, none⟩) (fun k env s => (∃ u2 u3 u4, env = [some v, some (.loc st.nxt), u2, u3, u4]) ∧ ∃ M, s = st.alloc (.lst ((M.map (mkC (tot L))).map chP)) ∧ Mk (tot L) ((kE.sort (L.map keyOf)).take k) M ∧ M.length ≤ k) _ (fun k x env s hx hI => ?_) (fun env s hI => ?_) ⟨⟨_, _, _, rfl⟩, [], rfl, ⟨⟨.nil, .nil⟩, fun k => by simp⟩, Nat.zero_le _⟩
  · obtain ⟨⟨u2, u3, u4, rfl⟩, M, rfl, hM, hMl⟩ := hI
    obtain ⟨y, hy, hm, rfl⟩ := get_map hx
    have hk := (List.getElem?_eq_some_iff.mp hy).1
    have hc : (st.alloc (.lst ((M.map (mkC (tot L))).map chP))).cs st.nxt = some (.lst ((M.map (mkC (tot L))).map chP)) := Sto.alloc_get chs_lbC
    have hst := hM.step (y := y) (T := (kE.sort (L.map keyOf)).drop (k + 1)) (by
      have e : (kE.sort (L.map keyOf)).take k ++ y :: (kE.sort (L.map keyOf)).drop (k + 1) = kE.sort (L.map keyOf) := by
        have h2 := (List.getElem?_eq_some_iff.mp hy).2
        rw [← h2, ← List.drop_eq_getElem_cons hk, List.take_append_drop]
      rw [e]; exact kE.sort_sorted _)
    rw [← take_step hy] at hst
    refine ⟨Its.ok_none, wp_eq rfl ?_⟩
    walk_at "go"
    obtain ⟨src2, j1, j2⟩ := itsOf_lst (hup (.lst ((M.map (mkC (tot L))).map chP)))
    refine wp_eq j1 ?_
    walk_at "go"
    refine wp_eq (lc_filter (its := ⟨L.map chP, src2⟩) (l := L) (p := fun x => decide (x.2.1 = y.1) && decide (x.1 = y.2)) (f := fun x => .int x.2.2) rfl (j2 _ fun _ _ => rfl) fun a ha => ⟨_, rfl, eq_of_wp ?_, fun hp => eq_of_wp ?_⟩) ?_
    · walk_at "go"
      refine wp_eq (a := .bl (decide (a.2.1 = y.1))) (by rw [show PV.bl (decide (a.2.1 = y.1)) = .bl (decide (a.2.1 = y.1) != false) by rw [Bool.bne_false]]; exact cmpEq_tT) ?_
      walk_at "go"
      by_cases h1 : a.2.1 = y.1
      · rw [decide_eq_true h1]
        walk_at "go"
        refine wp_eq (a := .bl (decide (a.1 = y.2))) (by rw [show PV.bl (decide (a.1 = y.2)) = .bl (decide (a.1 = y.2) != false) by rw [Bool.bne_false]]; exact cmpEq_tT) ?_
        first | exact ⟨by rw [Bool.true_and], rfl⟩ | exact wp_ret ⟨by rw [Bool.true_and], rfl⟩
      · rw [decide_eq_false h1]
        walk_at "go"
        first | exact ⟨by rw [Bool.false_and], rfl⟩ | exact wp_ret ⟨by rw [Bool.false_and], rfl⟩
    · walk_at "go"
      first | exact ⟨rfl, rfl⟩ | exact wp_ret ⟨rfl, rfl⟩
    have hfl := List.length_filter_le (fun x : Chg => decide (x.2.1 = y.1) && decide (x.1 = y.2)) L
    have ei : (L.filter fun x => decide (x.2.1 = y.1) && decide (x.1 = y.2)).map (fun x => PV.int x.2.2) = ((L.filter fun x => decide (x.2.1 = y.1) && decide (x.1 = y.2)).map fun x => x.2.2).map .int := by rw [List.map_map]; rfl
    rw [ei]
    refine wp_eq (mkV_eq (okL (by rw [List.length_map, List.length_map]; omega))) ?_
    walk_at "go"
    refine wp_eq (bSum_ints rfl) ?_
    rw [tot_filter]
    walk_at "go"
    rw [eqv_int]
    by_cases h1 : tot L y = 0
    · rw [decide_eq_false (fun z => z h1), Bool.false_and, if_neg (by decide)] at hst
      rw [h1]
      walk_at "go"
      exact ⟨⟨_, _, _, rfl⟩, M, rfl, hst, by omega⟩
    · have e0 : ((tot L y == 0) != true) = true := by simp [h1]
      rw [e0]
      walk_at "go"
      refine wp_eq (a := .bl (decide (y ∈ M) != true)) (s := st.alloc (.lst ((M.map (mkC (tot L))).map chP))) ?_ ?_
      · refine (chE.cmpIn (a := mkC (tot L) y) (l := M.map (mkC (tot L))) (neg := true) (lst_loc hc) rfl chE_m).trans ?_
        by_cases z : y ∈ M
        · have z2 : mkC (tot L) y ∈ M.map (mkC (tot L)) := List.mem_map_of_mem z
          simp only [z, z2, decide_true]
        · have z2 : ¬ mkC (tot L) y ∈ M.map (mkC (tot L)) := fun w => by
            obtain ⟨j, hj, e⟩ := List.mem_map.mp w
            exact z (mkC_inj e ▸ hj)
          simp only [z, z2, decide_false]
      walk_at "go"
      by_cases h2 : y ∈ M
      · rw [decide_eq_false (show ¬ y ∉ M from fun z => z h2), Bool.and_false, if_neg (by decide)] at hst
        rw [decide_eq_true h2]
        walk_at "go"
        exact ⟨⟨_, _, _, rfl⟩, M, rfl, hst, by omega⟩
      · rw [decide_eq_true h1, decide_eq_true h2, if_pos (show (true && true) = true from rfl)] at hst
        rw [decide_eq_false h2]
        walk_at "go"
        refine wp_eq (loc_asL hc) ?_
        walk_at "go"
        refine wp_eq (loc_append hc (by rw [List.length_map, List.length_map, sizeLine_eq]; omega) (chP_lb (x := mkC (tot L) y))) ?_
        walk_at "go"
        refine ⟨⟨_, _, _, rfl⟩, M ++ [y], ?_, hst, by rw [List.length_append, List.length_singleton]; omega⟩
        show (st.alloc _).set st.nxt (.lst ((M.map (mkC (tot L))).map chP ++ [chP (mkC (tot L) y)])) = _
        have e3 : M.map (mkC (tot L)) ++ [mkC (tot L) y] = (M ++ [y]).map (mkC (tot L)) := by rw [List.map_append]; rfl
        rw [chs_snoc, e3, alloc_chs]
  · obtain ⟨⟨u2, u3, u4, rfl⟩, M, rfl, hM, hMl⟩ := hI
    rw [show (Its.mk ((kE.sort (L.map keyOf)).map kE.p) none).items.length = (kE.sort (L.map keyOf)).length from List.length_map _, List.take_length] at hM
    refine ⟨Its.ok_none, ?_⟩
    rw [hM.done]
    walk_at "go"
    refine wp_eq (fin_loc (Nat.le_refl _) (Sto.alloc_get chs_lbC) chs_lbC) ?_
    rw [Sto.restr_alloc (Nat.le_refl _), Sto.restr_self]
    exact q
/-! W4 of k10: due lists, bags -/
theorem settle_new {st : Sto} {xs : List PV} (h : lbs st.nxt xs = true) : settle st.nxt (.loc st.nxt) (st.alloc (.lst xs)) = some (.lst xs, st) := by
  have hc : (Cell.lst xs).lb st.nxt = true := h
  unfold settle
  rw [PV.res_loc (Nat.le_refl _) (Sto.alloc_get hc) hc, Sto.restr_alloc (Nat.le_refl _), Sto.restr_self]
  rfl
theorem wp_settle {b : Nat} {v v' : PV} {s s' : Sto} {X : Option (PV × Sto)} {Q : PV → Sto → Prop} (h : settle b v s = some (v', s')) (q : Q v' s') : wp (if false = true then X else settle b v s) Q := by
  rw [if_neg (by decide), h]
  exact wp_ret q
/-! bags as of a time -/
def prP (x : List Int × Int) : PV := .tup [tT x.1, .int x.2]
def prE : EqE (List Int × Int) := rowE.pair EqE.int
theorem prP_lb {n : Nat} {x : List Int × Int} : (prP x).lb n = true := by
  unfold prP
  refine tup_lb ?_
  rw [lbs_cons, lbs_cons, lbs_nil, tT_lb, lb_int]; rfl
theorem prs_lbV {n : Nat} {L : List (List Int × Int)} : (PV.lst (L.map prP)).lb n = true := lst_lb (lbs_map (fun _ => prP_lb) L)
theorem bag_snoc (L : List Chg) (x : Chg) (q r : List Int) : bag (L ++ [x]) q r = (if leqB x.2.1 q = true ∧ x.1 = r then x.2.2 else 0) + bag L q r := by
  have : bag (L ++ [x]) q r = bag L q r + bag [x] q r := wt_app _ L [x]
  rw [this, bag_cons]
  show _ + (_ + 0) = _
  omega
theorem seen_wp {L : List Chg} {q : List Int} {v : PV} {n : Nat} {st : Sto} (hn : n ≤ 1000) (hz : L.length ≤ 1000000) (hL : ∀ x ∈ L, x.1 ≠ [] ∧ x.2.1.length = n) (hq : q.length = n) (hv : lstOf st v = some (L.map chP)) : f_law_seen [v, tT q] st = some (.lst ((seen L q).map prP), st) := by
  unfold f_law_seen
  refine eq_of_wp (wp_runF rfl ?_)
  show wp (D_law_seen [some v, some (tT q), none, none, none] st) _
  unfold D_law_seen
  refine wp_mb (wp_mb (wp_eq newD ?_))
  have hv1 := lst_up (c := .dct [] []) hv
  obtain ⟨src', j1, j2⟩ := itsOf_lst hv1
  have hlne : ∀ l, v = .loc l → l ≠ st.nxt := fun l e z => by
    subst e
    subst z
    have hv : (match st.cs st.nxt with | some (.lst xs) => some xs | _ => none) = some (L.map chP) := hv
    rw [st.wf _ (Nat.le_refl _)] at hv; cases hv
  walk_at "go"
  refine wp_eq j1 ?_
  walk_at "go"
  refine forGo_wp (its := ⟨L.map chP, src'⟩) (fun k env s => (∃ u3, env = [some v, some (tT q), some (.loc st.nxt), u3, none]) ∧ ∃ D, s = st.alloc (dC rE D) ∧ DSum (bag (L.take k) q) D ∧ D.length ≤ k ∧ ∀ r ∈ D.map (·.1), r ≠ []) _ (fun k x env s hx hI => ?_) (fun env s hI => ?_) ⟨⟨_, rfl⟩, [], rfl, .nil, Nat.zero_le _, fun r (z : r ∈ []) => (by cases z)⟩
  · obtain ⟨⟨u3, rfl⟩, D, rfl, hD, hl, hne⟩ := hI
    obtain ⟨y, hy, hm, rfl⟩ := get_map hx
    have hk := (List.getElem?_eq_some_iff.mp hy).1
    have hc : (st.alloc (dC rE D)).cs st.nxt = some (dC rE D) := Sto.alloc_get (dC_lb rE)
    refine ⟨j2 _ fun l e => by rw [Sto.alloc_ne (hlne l e), Sto.alloc_ne (hlne l e)], wp_eq rfl ?_⟩
    walk_at "go"
    refine wp_eq (law_leq_eq (by rw [(hL y hm).2, hq]) (by rw [(hL y hm).2]; exact hn)) ?_
    walk_at "go"
    cases hb : leqB y.2.1 q with
    | false =>
      walk_at "go"
      refine ⟨⟨_, rfl⟩, D, rfl, ?_, by omega, hne⟩
      rw [take_step hy]
      exact hD.same fun r => by rw [bag_snoc, hb, if_neg (fun z => by cases z.1), Int.zero_add]
    | true =>
      walk_at "go"
      refine wp_eq (dC_get rE (k := y.1) rfl hc rfl rfl hc) ?_
      walk_at "go"
      refine wp_setL (dC_set rE (k := y.1) hc (by rw [sizeLine_eq]; omega)) ?_
      walk_at "go"
      refine ⟨⟨_, rfl⟩, _, Sto.alloc_set (dC_lb rE) (dC_lb rE), ?_, Nat.le_trans (aput_len _ _ _) (by omega), fun r hr => ?_⟩
      · rw [take_step hy]
        refine hD.put fun r => ?_
        rw [bag_snoc, hb]
        by_cases e : y.1 = r
        · rw [if_pos ⟨rfl, e⟩, if_pos e]
        · rw [if_neg (fun z => e z.2), if_neg e]
      · rcases (akeys_put _ _ _ _).mp hr with rfl | hr
        · exact (hL y hm).1
        · exact hne r hr
  · obtain ⟨⟨u3, rfl⟩, D, rfl, hD, hl, hne⟩ := hI
    have hl : D.length ≤ L.length := by have hl : D.length ≤ (L.map chP).length := hl; rw [List.length_map] at hl; exact hl
    have hc : (st.alloc (dC rE D)).cs st.nxt = some (dC rE D) := Sto.alloc_get (dC_lb rE)
    rw [show (Its.mk (L.map chP) src').items.length = L.length from List.length_map _, List.take_length] at hD
    refine ⟨j2 _ fun l e => by rw [Sto.alloc_ne (hlne l e), Sto.alloc_ne (hlne l e)], ?_⟩
    walk_at "go"
    show wp (bSorted false [.loc st.nxt] (st.alloc (dC rE D))) _
    rw [dct_sorted hc, akP_map, rE.sortGo_eq (by rw [List.length_map, sizeLine_eq]; omega) fun a ha => by
      cases a with
      | nil => exact absurd rfl (hne _ ha)
      | cons x r => exact ⟨_, _, rfl⟩]
    have hsl : (rE.sort (D.map (·.1))).length = D.length := by rw [rE.sort_len, List.length_map]
    refine wp_eq (mkV_eq (okL (by rw [List.length_map, hsl]; omega))) ?_
    walk_at "go"
    refine wp_eq (lc_filter (its := ⟨(rE.sort (D.map (·.1))).map rE.p, none⟩) (l := rE.sort (D.map (·.1))) (p := fun k => decide ((aget k D).getD 0 ≠ 0)) (f := fun r => prP (r, (aget r D).getD 0)) rfl Its.ok_none fun k hk => ⟨_, rfl, eq_of_wp ?_, fun hp => eq_of_wp ?_⟩) ?_
    · have hk := rE.sort_mem.mp hk
      walk_at "go"
      refine wp_eq (dC_ix rE hc hk) ?_
      walk_at "go"
      rw [eqv_int]
      first
        | (refine ⟨?_, rfl⟩; by_cases e : (aget k D).getD 0 = 0 <;> simp [e])
        | (refine wp_ret ⟨?_, rfl⟩; by_cases e : (aget k D).getD 0 = 0 <;> simp [e])
    · have hk := rE.sort_mem.mp hk
      walk_at "go"
      refine wp_eq (dC_ix rE hc hk) ?_
      walk_at "go"
      exact ⟨rfl, rfl⟩
    have e : ((rE.sort (D.map (·.1))).filter fun k => decide ((aget k D).getD 0 ≠ 0)).map (fun r => prP (r, (aget r D).getD 0)) = (seen L q).map prP := by
      have := seen_of (S := rE.sort (D.map (·.1))) (f := fun k => (aget k D).getD 0) (L := L) (q := q) (.of hD.nd) (fun k => hD.val k) fun k hk => rE.sort_mem.mpr (hD.mem hk)
      rw [← this]
      unfold canonR
      rw [List.map_map]; rfl
    rw [e]
    refine wp_eq (mkV_eq (okL (by rw [List.length_map]; have := seen_len L q; omega))) ?_
    walk_at "go"
    refine wp_eq (fin_val prs_lbV) ?_
    rw [Sto.restr_alloc (Nat.le_refl _), Sto.restr_self]
    exact ⟨rfl, rfl⟩
/-! S: statement by statement: what comes behind a statement stays out of sight while it is walked -/
def Cont (K B : DS) (Q : Fl → Sto → Prop) : Prop := ∀ e s, wp (B e s) Q → wp (K e s) Q
theorem wp_seqK {A B : DS} {env : Env} {st : Sto} {Q : Fl → Sto → Prop} (h : ∀ K : DS, Cont K B Q → wp (A env st) fun f s => wp (match f with | .nx e => K e s | f => some (f, s)) Q) : wp (sSeq A B env st) Q := by
  have := h B fun _ _ z => z
  obtain ⟨f, s, e, q⟩ := this
  show wp (mb (A env st) _) Q
  rw [e]
  exact q
theorem wp_nx {K B : DS} {e : Env} {s : Sto} {Q : Fl → Sto → Prop} (h : Cont K B Q) (q : wp (B e s) Q) : wp (K e s) Q := h e s q
/-! Dx: the pool, and places made since -/
def Drx (p : Nat) (st s : Sto) : Prop := st.nxt ≤ s.nxt ∧ Dr p st (s.restr st.nxt)
theorem Drx.refl {p : Nat} {st : Sto} (h : Pool p st) : Drx p st st := ⟨Nat.le_refl _, by rw [Sto.restr_self]; exact .refl h⟩
theorem Drx.alloc {p : Nat} {st s : Sto} {c : Cell} (h : Drx p st s) : Drx p st (s.alloc c) := ⟨by rw [Sto.alloc_nxt]; exact Nat.le_succ_of_le h.1, by rw [Sto.restr_alloc h.1]; exact h.2⟩
theorem Drx.set {p l : Nat} {st s : Sto} {c : Cell} (h : Drx p st s) (hl : st.nxt ≤ l) : Drx p st (s.set l c) := ⟨h.1, by rw [Sto.restr_set_ge hl]; exact h.2⟩
theorem Drx.dr {p : Nat} {st s s' : Sto} (h : Drx p st s) (hP : Pool p s) (hp : p < st.nxt) (d : Dr p s s') : Drx p st s' := by
  obtain ⟨P0, h0, _⟩ := hP
  obtain ⟨P, rfl, h2⟩ := d
  refine ⟨h.1, ?_⟩
  rw [Sto.restr_set_lt hp h.1 h0 ints_lb ints_lb]
  exact h.2.trans ⟨P, rfl, h2⟩
structure PL (p l : Nat) (st s : Sto) (c : Cell) : Prop where
  pool : Pool p s
  drx : Drx p st s
  at' : s.cs l = some c
  hl : st.nxt ≤ l
  hp : p < st.nxt
namespace PL
variable {p l : Nat} {st s s' : Sto} {c c' : Cell}
theorem new (h : Pool p st) (hc : c.lb st.nxt = true) : PL p st.nxt st (st.alloc c) c := ⟨h.alloc, (Drx.refl h).alloc, Sto.alloc_get hc, Nat.le_refl _, h.lt⟩
theorem ne (h : PL p l st s c) : l ≠ p := by have := h.hl; have := h.hp; omega
theorem dr (h : PL p l st s c) (d : Dr p s s') : PL p l st s' c := ⟨h.pool.dr d, h.drx.dr h.pool h.hp d, by rw [d.get h.ne]; exact h.at', h.hl, h.hp⟩
theorem put (h : PL p l st s c) (hc : c'.lb s.nxt = true) : PL p l st (s.set l c') c' := ⟨h.pool.set h.ne, h.drx.set h.hl, Sto.set_get h.at' hc, h.hl, h.hp⟩
theorem other {l2 : Nat} {c2 : Cell} (h : PL p l st s c) (h2 : st.nxt ≤ l2) (hne : l ≠ l2) : PL p l st (s.set l2 c2) c := ⟨h.pool.set (by have := h.hp; omega), h.drx.set h2, by rw [Sto.set_ne hne]; exact h.at', h.hl, h.hp⟩
theorem alloc {c2 : Cell} (h : PL p l st s c) : PL p l st (s.alloc c2) c := ⟨h.pool.alloc, h.drx.alloc, by rw [Sto.alloc_ne (by have := Sto.lt_of h.at'; omega)]; exact h.at', h.hl, h.hp⟩
theorem fin (h : PL p l st s c) (hc : c.lb st.nxt = true) : DL.fin st.nxt (.loc l) s = some (.loc (s.restr st.nxt).nxt, (s.restr st.nxt).alloc c) := fin_loc h.hl h.at' hc
end PL
theorem settle_dr {p : Nat} {st st' : Sto} (d : Dr p st st') {xs : List PV} (h : lbs st'.nxt xs = true) : settle st.nxt (.loc st'.nxt) (st'.alloc (.lst xs)) = some (.lst xs, st') := by
  rw [← d.nxt]
  exact settle_new h
theorem leqB_get : ∀ {a b : List Int} {k : Nat} (h : leqB a b = true) (ha : k < a.length) (hb : k < b.length), a[k] ≤ b[k]
  | x :: a, y :: b, 0, h, _, _ => by
    rw [leqB, Bool.and_eq_true, decide_eq_true_iff] at h
    exact h.1
  | x :: a, y :: b, k + 1, h, ha, hb => by
    rw [leqB, Bool.and_eq_true, decide_eq_true_iff] at h
    exact leqB_get h.2 (by rw [List.length_cons] at ha; omega) (by rw [List.length_cons] at hb; omega)
theorem leqB_eqlen {a b : List Int} (h : leqB a b = true) : a.length = b.length := by
  by_cases e : a.length = b.length
  · exact e
  · rw [leqB_len e] at h; cases h
def blE : EqE Bool where
  p := .bl
  d := .bool
  m := 0
  pd := fun a cs => by rw [PV.toD]
  lay := fun a => by rw [PyData.canLay0]
  dep := fun a => by rw [PyData.depth]; exact Nat.le_refl _
  eq := fun a b => by rw [PyData.eqv]; cases a <;> cases b <;> rfl
theorem wp_sIf {t : DT} {a b : DS} {env : Env} {st s1 : Sto} {x : Bool} {Q : Fl → Sto → Prop} (ht : t env st = some (x, s1)) (h : wp (if x then a env s1 else b env s1) Q) : wp (sIf t a b env st) Q := by
  unfold sIf
  rw [ht, mb_some]
  exact h
def CH (w n : Nat) (L : List Chg) : Prop := ∀ x ∈ L, x.1.length = w ∧ x.2.1.length = n
theorem CH.nil {w n : Nat} : CH w n [] := fun x (z : x ∈ []) => (by cases z)
theorem CH.snoc {w n : Nat} {L : List Chg} {x : Chg} (h : CH w n L) (h1 : x.1.length = w) (h2 : x.2.1.length = n) : CH w n (L ++ [x]) := fun y hy => by
  rcases List.mem_append.mp hy with hy | hy
  · exact h y hy
  · rw [List.mem_singleton] at hy
    subst hy
    exact ⟨h1, h2⟩
theorem app_chs {l : Nat} {s : Sto} {R : List Chg} {x : Chg} (h : s.cs l = some (.lst (R.map chP))) (hz : R.length ≤ 1000000) : mAppend l [chP x] s = some (.non, s.set l (.lst ((R ++ [x]).map chP))) := by
  rw [loc_append h (by rw [List.length_map, sizeLine_eq]; omega) chP_lb, chs_snoc]
def shP (w : Nat) (rs : Int) (n : Nat) (span : Int) : PV := .tup [.int w, .int rs, .int n, .int span]
theorem get_chs {L : List Chg} {x : PV} (h : x ∈ L.map chP) : ∃ y ∈ L, x = chP y := by
  obtain ⟨y, hy, rfl⟩ := List.mem_map.mp h
  exact ⟨y, hy, rfl⟩
theorem sl_eq {a : DE} {lo hi : DO} {env : Env} {st : Sto} {v : PV} {xs : List PV} {l h : Option Int} (ha : a env st = some (v, st)) (hlo : lo env st = some (l, st)) (hhi : hi env st = some (h, st)) (hv : lstOf st v = some xs) (hz : (cutP xs l h).length ≤ 1000000) : dSl false a lo hi env st = some (.lst (cutP xs l h), st) := by
  unfold dSl
  rw [ha, mb_some, hlo, mb_some, hhi, mb_some]
  cases v with
  | tup _ => cases hv
  | lst ys =>
    cases hv
    exact mkV_eq (okL hz)
  | loc i =>
    show (match lstOf st (.loc i) with | some xs => mkL false (cutP xs l h) st | none => none) = _
    rw [hv]
    exact mkV_eq (okL hz)
  | _ => cases hv
theorem cutC_from {α : Type} {f : α → PV} {L : List α} {i : Int} {k : Nat} (hi : i = (k : Int)) (h : k ≤ L.length) : cutP (L.map f) (some i) none = (L.drop k).map f := by
  rw [cutL_from hi (by rw [List.length_map]; exact h), List.map_drop]
theorem cutC_to {α : Type} {f : α → PV} {L : List α} {i : Int} {k : Nat} (hi : i = (k : Int)) (h : k ≤ L.length) : cutP (L.map f) none (some i) = (L.take k).map f := by
  rw [cutL_to hi (by rw [List.length_map]; exact h), List.map_take]
theorem add_maps {α : Type} {f : α → PV} {a b : List α} {st : Sto} (h : a.length + b.length ≤ 1000000) : opAdd false (.lst (a.map f)) (.lst (b.map f)) st = some (.lst ((a ++ b).map f), st) := by
  rw [add_lst (y := .lst (b.map f)) rfl, ← List.map_append]
  exact mkV_eq (okL (by rw [List.length_map, List.length_append]; exact h))
theorem wt_one (g : List Int → List Int → Int) (x : Chg) : wt g [x] = x.2.2 * g x.1 x.2.1 := by rw [wt_cons, wt_nil, Int.add_zero]
theorem thr_eq {F : List Int → Option (List Int)} {g : List Int → List Int → Int} {r a t : List Int} (h : F a = F t) : thr F g r a = thr F g r t := by unfold thr; rw [h]
theorem Sm.split {F : List Int → Option (List Int)} {r a b t : List Int} {c m : Int} (ha : F a = F t) (hb : F b = F t) : Sm F ([(r, a, c - m)] ++ [(r, b, m)]) [(r, t, c)] := fun g => by
  rw [wt_app, wt_one, wt_one, wt_one]
  show (c - m) * thr F g r a + m * thr F g r b = c * thr F g r t
  rw [thr_eq ha, thr_eq hb, ← Int.add_mul]
  congr 1
  omega
theorem Sm.pair {F : List Int → Option (List Int)} {r b t : List Int} {c : Int} (hb : F b = F t) : Sm F ([(r, t, c)] ++ [(r, b, -c)]) [] := fun g => by
  rw [wt_app, wt_one, wt_one, wt_nil]
  show c * thr F g r t + -c * thr F g r b = 0
  rw [thr_eq hb, ← Int.add_mul]
  have : c + -c = 0 := by omega
  rw [this, Int.zero_mul]
theorem Sm.one {F : List Int → Option (List Int)} {r a t : List Int} {c : Int} (ha : F a = F t) : Sm F [(r, a, c)] [(r, t, c)] := fun g => by
  rw [wt_one, wt_one]
  show c * thr F g r a = c * thr F g r t
  rw [thr_eq ha]
theorem canon_keys {L : List Chg} {x : Chg} (h : x ∈ canon L) : ∃ y ∈ L, keyOf y = keyOf x := by
  obtain ⟨h1, h2⟩ := canon_mem.mp h
  rw [h1] at h2
  have : keyOf x ∈ L.map keyOf := by
    apply Classical.byContradiction
    intro z
    exact h2 (tot_zero z)
  obtain ⟨y, hy, e⟩ := List.mem_map.mp this
  exact ⟨y, hy, e⟩
theorem CH.canon {w n : Nat} {L : List Chg} (h : CH w n L) : CH w n (DL.canon L) := fun x hx => by
  obtain ⟨y, hy, e⟩ := canon_keys hx
  have e1 : y.2.1 = x.2.1 := congrArg (fun k : Key => k.1) e
  have e2 : y.1 = x.1 := congrArg (fun k : Key => k.2) e
  rw [← e1, ← e2]
  exact h y hy
theorem plain_chs {L : List Chg} {w n d : Nat} (h : CH w n L) (hw : w ≤ 1000) (hn : n ≤ 1000) (hz : L.length ≤ 1000000) : plainP (d + 3) (.lst (L.map chP)) = true := by
  show (decide ((L.map chP).length ≤ 1000000) && (L.map chP).all (plainP (d + 2))) = true
  rw [List.length_map, decide_eq_true hz, List.all_map, List.all_eq_true.mpr fun x hx => ?_]
  · rfl
  · obtain ⟨h1, h2⟩ := h x hx
    show (decide (([tT x.1, tT x.2.1, PV.int x.2.2] : List PV).length ≤ 1000000) && ([tT x.1, tT x.2.1, PV.int x.2.2] : List PV).all (plainP (d + 1))) = true
    rw [List.all_cons, List.all_cons, List.all_cons, plain_tT (by omega), plain_tT (by omega), plain_int]
    rfl
theorem moved_CH {w n : Nat} {F : List Int → Option (List Int)} (hF : ∀ t d, F t = some d → d.length = n) : ∀ {L : List Chg}, CH w n L → CH w n (moved F L)
  | [], _ => .nil
  | x :: L, h => by
    rw [moved_cons]
    intro y hy
    rcases List.mem_append.mp hy with hy | hy
    · cases e : F x.2.1 with
      | none => rw [e] at hy; cases hy
      | some d =>
        rw [e] at hy
        have hy : y ∈ [(x.1, d, x.2.2)] := hy
        rw [List.mem_singleton] at hy
        subst hy
        exact ⟨(h x List.mem_cons_self).1, hF _ _ e⟩
    · exact moved_CH hF (L := L) (fun z hz => h z (List.mem_cons_of_mem _ hz)) y hy
theorem bag_canon (L : List Chg) (q r : List Int) : bag (canon L) q r = bag L q r := wt_canon _ L
theorem prE_m : prE.m ≤ 60 := by decide
theorem same_chs {w n : Nat} {A B : List Chg} {st : Sto} (hA : CH w n A) (hB : CH w n B) (hw : w ≤ 1000) (hn : n ≤ 1000) (ha : A.length ≤ 1000000) (hb : B.length ≤ 1000000) : f_law_same 6 [.lst (A.map chP), .lst (B.map chP)] st = some (.bl (decide (A = B)), st) := by
  unfold f_law_same
  have hc := cmp_lst (cmp_tri (cmp_tup (cmp_int (d := 2))) (cmp_tup (cmp_int (d := 2))) (cmp_int (d := 3)))
  have ok : ∀ {C : List Chg}, CH w n C → ∀ x ∈ C, (x.1.length ≤ 1000000 ∧ ∀ a ∈ x.1, True) ∧ (x.2.1.length ≤ 1000000 ∧ ∀ a ∈ x.2.1, True) ∧ True := fun {C} h x hx => by
    obtain ⟨h1, h2⟩ := h x hx
    exact ⟨⟨by omega, fun _ _ => trivial⟩, ⟨by omega, fun _ _ => trivial⟩, trivial⟩
  exact hc A B st ⟨ha, ok hA⟩ ⟨hb, ok hB⟩
theorem canon_nil : canon [] = [] := by
  have := canon_len []
  exact List.length_eq_zero_iff.mp (Nat.le_zero.mp this)
theorem sum_nn : ∀ {a : List Int}, (∀ c ∈ a, 0 ≤ c) → 0 ≤ a.sum
  | [], _ => Int.le_refl 0
  | x :: a, h => by
    rw [List.sum_cons]
    have := h x List.mem_cons_self
    have := sum_nn fun c hc => h c (List.mem_cons_of_mem _ hc)
    omega
theorem zs_cut {n : Nat} {c : Int} (h : n ≤ 4) : PV.tup (cutP [.int c, .int c, .int c, .int c] none (some (n : Int))) = tT ((List.replicate 4 c).take n) := by
  show PV.tup (cutP ((List.replicate 4 c).map PV.int) none (some (n : Int))) = _
  rw [cutT_to rfl (by rw [List.length_replicate]; exact h)]
  rfl
theorem zs_len {n : Nat} {c : Int} (h : n ≤ 4) : ((List.replicate 4 c).take n).length = n := by
  rw [List.length_take, List.length_replicate]; omega
theorem pick_int {p : Nat} {st : Sto} {l : List Int} {Q : PV → Sto → Prop} (h : Pool p st) (hne : 0 < l.length) (q : ∀ i st', i ∈ l → Dr p st st' → Q (.int i) st') : wp (f_law_pick [.loc p, .lst (l.map .int)] st) Q := by
  refine pick_wp h (xs := l.map .int) (fun _ _ => rfl) (by rw [List.length_map]; exact hne) (fun x hx => ?_) fun x s hx d => ?_
  · obtain ⟨i, _, rfl⟩ := List.mem_map.mp hx
    exact lb_int _ _
  · obtain ⟨i, hi, rfl⟩ := List.mem_map.mp hx
    exact q i s hi d
theorem ix_head {y : Chg} {N : List Chg} {st : Sto} : opIx (.lst ((y :: N).map chP)) (.int 0) st = some (chP y, st) := seq_ix (i := 0) rfl (atI_nat (j := 0) rfl)
end DL

namespace DL
open PySem L2
local macro_rules | `(tactic| walk_at "go") => `(tactic| repeat (first | refine wp_mb ?_ | with_reducible refine wp_mul (by first | assumption | (exact okMul_iff.mpr (by omega))) ?_ | with_reducible refine wp_mod (by first | assumption | (exact okMod_iff.mpr (by omega))) ?_ | with_reducible refine wp_div (by first | assumption | (exact okDiv_iff.mpr (by omega))) ?_ | with_reducible refine wp_pow (by first | assumption | (exact okPow_iff.mpr (by decide))) ?_ | ((with_reducible refine wp_set ?_ ?_ ?_); (focus rfl); (focus first | exact tT_lb | exact lb_int _ _ | exact lb_bl _ _ | exact lb_non _ | assumption)) | refine wp_eq rfl ?_))
/-! W1 of k07: moved above a floor -/
theorem lub_eq {a b : List Int} (h : a.length = b.length) (ha : a.length ≤ 1000) {st : Sto} : f_lub [tT a, tT b] st = some (tT (lubL a b), st) := by
  unfold f_lub
  refine runF_eq rfl tT_lb ?_
  show wp (D_lub [some (tT a), some (tT b), none] st) _
  unfold D_lub
  walk_at "go"
  rw [List.length_map]
  refine wp_pos (okR (by omega)) ?_
  walk_at "go"
  have hl : ((lubL a b).map PV.int).length = a.length := by rw [List.length_map, lubL_len h]
  refine wp_eq (lc_rng ((lubL a b).map .int) hl fun k hk => ⟨_, .int (max a[k] b[k]), rfl, zip_get hk (by omega), eq_of_wp ?_⟩) ?_
  · walk_at "go"
    rw [tup_ix hk]
    walk_at "go"
    rw [tup_ix (a := b) (by omega)]
    walk_at "go"
    exact ⟨by rw [max_if], rfl⟩
  · refine wp_eq (mkV_eq (okL (by omega))) ?_
    walk_at "go"
    refine wp_eq (bTuple_lst (by omega)) ?_
    walk_at "go"
    exact ⟨rfl, rfl⟩
theorem join_eq {a b : List Int} (h : a.length = b.length) (ha : a.length ≤ 1000) {st : Sto} : f_law_join [tT a, tT b] st = some (tT (lubL a b), st) := by
  unfold f_law_join
  refine runF_eq rfl tT_lb ?_
  show wp (D_law_join [some (tT a), some (tT b), none] st) _
  unfold D_law_join
  walk_at "go"
  rw [List.length_map]
  refine wp_pos (okR (by omega)) ?_
  walk_at "go"
  have hl : ((lubL a b).map PV.int).length = a.length := by rw [List.length_map, lubL_len h]
  refine wp_eq (lc_rng ((lubL a b).map .int) hl fun k hk => ⟨_, .int (max a[k] b[k]), rfl, zip_get hk (by omega), eq_of_wp ?_⟩) ?_
  · walk_at "go"
    rw [tup_ix hk]
    walk_at "go"
    rw [tup_ix (a := b) (by omega)]
    walk_at "go"
    exact ⟨by rw [max_if], rfl⟩
  · refine wp_eq (mkV_eq (okL (by omega))) ?_
    walk_at "go"
    refine wp_eq (bTuple_lst (by omega)) ?_
    walk_at "go"
    exact ⟨rfl, rfl⟩
theorem tidy_eq {L : List Chg} {v : PV} {st : Sto} (hz : L.length ≤ 1000000) (hv : lstOf st v = some (L.map chP)) : f_tidy [v] st = some (.lst ((canon L).map chP), st) := by
  unfold f_tidy
  refine eq_of_wp (wp_runF rfl ?_)
  show wp (D_tidy [some v, none, none, none, none, none] st) _
  unfold D_tidy
  refine wp_mb (wp_mb (wp_eq newD ?_))
  have hv1 := lst_up (c := .dct [] []) hv
  obtain ⟨src', j1, j2⟩ := itsOf_lst hv1
  have hlne : ∀ l, v = .loc l → l ≠ st.nxt := fun l e z => by
    subst e
    subst z
    have hv : (match st.cs st.nxt with | some (.lst xs) => some xs | _ => none) = some (L.map chP) := hv
    rw [st.wf _ (Nat.le_refl _)] at hv; cases hv
  walk_at "go"
  refine wp_eq j1 ?_
  walk_at "go"
  refine forGo_wp (its := ⟨L.map chP, src'⟩) (fun k env s => (∃ u2 u3 u4, env = [some v, some (.loc st.nxt), u2, u3, u4, none]) ∧ ∃ D, s = st.alloc (dC kE D) ∧ DSum (tot (L.take k)) D ∧ D.length ≤ k) _ (fun k x env s hx hI => ?_) (fun env s hI => ?_) ⟨⟨_, _, _, rfl⟩, [], rfl, .nil, Nat.zero_le _⟩
  · obtain ⟨⟨u2, u3, u4, rfl⟩, D, rfl, hD, hl⟩ := hI
    obtain ⟨y, hy, hm, rfl⟩ := get_map hx
    have hk := (List.getElem?_eq_some_iff.mp hy).1
    have hc : (st.alloc (dC kE D)).cs st.nxt = some (dC kE D) := Sto.alloc_get (dC_lb kE)
    refine ⟨j2 _ fun l e => by rw [Sto.alloc_ne (hlne l e), Sto.alloc_ne (hlne l e)], wp_eq rfl ?_⟩
    walk_at "go"
    refine wp_eq (dC_get kE (k := (y.2.1, y.1)) rfl hc rfl rfl hc) ?_
    walk_at "go"
    refine wp_setL (dC_set kE (k := (y.2.1, y.1)) hc (by rw [sizeLine_eq]; omega)) ?_
    walk_at "go"
    refine ⟨⟨_, _, _, rfl⟩, _, Sto.alloc_set (dC_lb kE) (dC_lb kE), ?_, Nat.le_trans (aput_len _ _ _) (by omega)⟩
    rw [take_step hy]
    exact hD.put fun j => by rw [tot_snoc]; rfl
  · obtain ⟨⟨u2, u3, u4, rfl⟩, D, rfl, hD, hl⟩ := hI
    have hl : D.length ≤ L.length := by have hl : D.length ≤ (L.map chP).length := hl; rw [List.length_map] at hl; exact hl
    have hc : (st.alloc (dC kE D)).cs st.nxt = some (dC kE D) := Sto.alloc_get (dC_lb kE)
    rw [show (Its.mk (L.map chP) src').items.length = L.length from List.length_map _, List.take_length] at hD
    refine ⟨j2 _ fun l e => by rw [Sto.alloc_ne (hlne l e), Sto.alloc_ne (hlne l e)], ?_⟩
    walk_at "go"
    show wp (bSorted false [.loc st.nxt] (st.alloc (dC kE D))) _
    rw [dct_sorted hc, akP_map, kE.sortGo_eq (by rw [List.length_map, sizeLine_eq]; omega) fun a _ => ⟨_, _, rfl⟩]
    have hsl : (kE.sort (D.map (·.1))).length = D.length := by rw [kE.sort_len, List.length_map]
    refine wp_eq (mkV_eq (okL (by rw [List.length_map, hsl]; omega))) ?_
    walk_at "go"
    refine wp_eq (lc_filter (its := ⟨(kE.sort (D.map (·.1))).map kE.p, none⟩) (l := kE.sort (D.map (·.1))) (p := fun k => decide ((aget k D).getD 0 ≠ 0)) (f := fun k => chP (mkC (fun k => (aget k D).getD 0) k)) rfl Its.ok_none fun k hk => ⟨_, rfl, eq_of_wp ?_, fun hp => eq_of_wp ?_⟩) ?_
    · have hk := kE.sort_mem.mp hk
      walk_at "go"
      refine wp_eq (dC_ix kE hc hk) ?_
      walk_at "go"
      rw [eqv_int]
      first
        | (refine ⟨?_, rfl⟩; by_cases e : (aget k D).getD 0 = 0 <;> simp [e])
        | (refine wp_ret ⟨?_, rfl⟩; by_cases e : (aget k D).getD 0 = 0 <;> simp [e])
    · have hk := kE.sort_mem.mp hk
      walk_at "go"
      refine wp_eq (dC_ix kE hc hk) ?_
      walk_at "go"
      exact ⟨rfl, rfl⟩
    have e : ((kE.sort (D.map (·.1))).filter fun k => decide ((aget k D).getD 0 ≠ 0)).map (fun k => chP (mkC (fun k => (aget k D).getD 0) k)) = (canon L).map chP := by
      have := canon_of (S := kE.sort (D.map (·.1))) (f := fun k => (aget k D).getD 0) (L := L) (.of hD.nd) (fun k => hD.val k) fun k hk => kE.sort_mem.mpr (hD.mem hk)
      rw [← this]
      unfold canonK
      rw [List.map_map]; rfl
    rw [e]
    refine wp_eq (mkV_eq (okL (by rw [List.length_map]; have := canon_len L; omega))) ?_
    walk_at "go"
    refine wp_eq (fin_val chs_lbV) ?_
    rw [Sto.restr_alloc (Nat.le_refl _), Sto.restr_self]
    exact ⟨rfl, rfl⟩
/-- the changes above the floor -/
def mv (fl : List Int) (L : List Chg) : List Chg := L.map fun x => (x.1, lubL x.2.1 fl, x.2.2)
theorem mv_len (fl : List Int) (L : List Chg) : (mv fl L).length = L.length := List.length_map _
theorem redate_eq {L : List Chg} {fl : List Int} {n : Nat} {st : Sto} (hn : n ≤ 1000) (hz : L.length ≤ 1000000) (hL : ∀ x ∈ L, x.2.1.length = n) (hf : fl.length = n) : f_redate [.lst (L.map chP), tT fl] st = some (.lst ((canon (mv fl L)).map chP), st) := by
  unfold f_redate
  refine runF_eq rfl chs_lbV ?_
  show wp (D_redate [some (.lst (L.map chP)), some (tT fl), none, none, none] st) _
  unfold D_redate
  walk_at "go"
  refine wp_eq (lc_map (its := ⟨L.map chP, none⟩) (l := L) (f := fun x => chP (x.1, lubL x.2.1 fl, x.2.2)) rfl Its.ok_none fun a ha => ⟨_, rfl, eq_of_wp ?_⟩) ?_
  · walk_at "go"
    refine wp_eq (lub_eq (by rw [hL a ha, hf]) (by rw [hL a ha]; exact hn)) ?_
    refine wp_set rfl tT_lb ?_
    walk_at "go"
    exact ⟨rfl, rfl⟩
  have e : L.map (fun x => chP (x.1, lubL x.2.1 fl, x.2.2)) = (mv fl L).map chP := by unfold mv; rw [List.map_map]; rfl
  rw [e]
  refine wp_eq (mkV_eq (okL (by rw [List.length_map, mv_len]; exact hz))) ?_
  walk_at "go"
  refine wp_eq (tidy_eq (L := mv fl L) (by rw [mv_len]; exact hz) rfl) ?_
  refine wp_set rfl chs_lbV ?_
  walk_at "go"
  exact ⟨rfl, rfl⟩
theorem law_moved_eq {L : List Chg} {fl : List Int} {n : Nat} {st : Sto} (hn : n ≤ 1000) (hz : L.length ≤ 1000000) (hL : ∀ x ∈ L, x.2.1.length = n) (hf : fl.length = n) : f_law_moved [.lst (L.map chP), tT fl] st = some (.lst ((canon (mv fl L)).map chP), st) := by
  unfold f_law_moved
  refine runF_eq rfl chs_lbV ?_
  show wp (D_law_moved [some (.lst (L.map chP)), some (tT fl), none] st) _
  unfold D_law_moved
  walk_at "go"
  refine wp_eq (lc_map (its := ⟨L.map chP, none⟩) (l := L) (f := fun x => chP (x.1, lubL x.2.1 fl, x.2.2)) rfl Its.ok_none fun a ha => ⟨_, rfl, eq_of_wp ?_⟩) ?_
  · walk_at "go"
    refine wp_eq (join_eq (by rw [hL a ha, hf]) (by rw [hL a ha]; exact hn)) ?_
    refine wp_set rfl tT_lb ?_
    walk_at "go"
    exact ⟨rfl, rfl⟩
  have e : L.map (fun x => chP (x.1, lubL x.2.1 fl, x.2.2)) = (mv fl L).map chP := by unfold mv; rw [List.map_map]; rfl
  rw [e]
  refine wp_eq (mkV_eq (okL (by rw [List.length_map, mv_len]; exact hz))) ?_
  walk_at "go"
  refine tidied_wp (L := mv fl L) (by rw [mv_len]; exact hz) rfl ?_
  refine wp_settle (settle_new chs_lb) ?_
  walk_at "go"
  exact ⟨rfl, rfl⟩
theorem chs_derf {st : Sto} {A : List Chg} : derf st (.lst (A.map chP)) = chE.list.p A := rfl
theorem alike_eq {A B : List Chg} {fl : List Int} {n : Nat} {st : Sto} (hn : n ≤ 1000) (ha : A.length ≤ 1000000) (hb : B.length ≤ 1000000) (hA : ∀ x ∈ A, x.2.1.length = n) (hB : ∀ x ∈ B, x.2.1.length = n) (hf : fl.length = n) : f_answers_alike [.lst (A.map chP), .lst (B.map chP), tT fl] st = some (.bl (decide (canon (mv fl A) = canon (mv fl B))), st) := by
  unfold f_answers_alike
  refine runF_eq rfl (lb_bl _ _) ?_
  show wp (D_answers_alike [some (.lst (A.map chP)), some (.lst (B.map chP)), some (tT fl)] st) _
  unfold D_answers_alike
  walk_at "go"
  refine wp_eq (redate_eq hn ha hA hf) ?_
  refine wp_set rfl chs_lbV ?_
  walk_at "go"
  refine wp_eq (redate_eq hn hb hB hf) ?_
  refine wp_set rfl chs_lbV ?_
  walk_at "go"
  refine wp_eq (chE.list.cmpEq (a := canon (mv fl A)) (b := canon (mv fl B)) rfl rfl (by decide)) ?_
  rw [Bool.bne_false]
  walk_at "go"
  exact ⟨rfl, rfl⟩
/-! bags above the floor -/
theorem lub_floor {t fl : List Int} (h : t.length = fl.length) : leqB fl (lubL t fl) = true := by
  have := leqB_lub (t := lubL t fl) h
  rw [leqB_refl] at this
  have := this.symm
  rw [Bool.and_eq_true] at this
  exact this.2
theorem bag_mv {n : Nat} {fl q r : List Int} {L : List Chg} (hL : ∀ x ∈ L, x.2.1.length = n) (hf : fl.length = n) (hq : leqB fl q = true) : bag (mv fl L) q r = bag L q r := by
  unfold bag mv wt
  rw [List.map_map]
  congr 1
  refine List.map_congr_left fun x hx => ?_
  show x.2.2 * bagG q r x.1 (lubL x.2.1 fl) = x.2.2 * bagG q r x.1 x.2.1
  unfold bagG
  rw [leqB_lub (by rw [hL x hx, hf]), hq, Bool.and_true]
theorem lub_nn : ∀ {a b : List Int}, (∀ c ∈ b, 0 ≤ c) → ∀ c ∈ lubL a b, 0 ≤ c
  | [], b, _, c, h => by cases b <;> cases h
  | x :: a, [], _, c, h => by cases h
  | x :: a, y :: b, hb, c, h => by
    have h : c ∈ max x y :: lubL a b := h
    rcases List.mem_cons.mp h with rfl | h
    · have := hb y List.mem_cons_self
      omega
    · exact lub_nn (fun c hc => hb c (List.mem_cons_of_mem _ hc)) c h
theorem mv_iff {n : Nat} {fl : List Int} {A B : List Chg} (hA : ∀ x ∈ A, x.2.1.length = n) (hB : ∀ x ∈ B, x.2.1.length = n) (hf : Tq n fl) : (∀ x ∈ A ++ B, seen A (lubL x.2.1 fl) = seen B (lubL x.2.1 fl)) ↔ canon (mv fl A) = canon (mv fl B) := by
  have hAB : ∀ x ∈ A ++ B, x.2.1.length = fl.length := fun x hx => by
    rcases List.mem_append.mp hx with hx | hx
    · rw [hA x hx, hf.1]
    · rw [hB x hx, hf.1]
  constructor
  · intro h
    refine canon_eq fun k => bags_same (qs := (A ++ B).map fun x => lubL x.2.1 fl) (fun q hq => ?_) (fun x hx => ?_) (fun x hx => ?_) (fun q hq r => ?_) k
    · obtain ⟨x, _, rfl⟩ := List.mem_map.mp hq
      exact sum_nn (lub_nn hf.2)
    · obtain ⟨y, hy, rfl⟩ := List.mem_map.mp hx
      exact List.mem_map.mpr ⟨y, List.mem_append_left _ hy, rfl⟩
    · obtain ⟨y, hy, rfl⟩ := List.mem_map.mp hx
      exact List.mem_map.mpr ⟨y, List.mem_append_right _ hy, rfl⟩
    · obtain ⟨x, hx, rfl⟩ := List.mem_map.mp hq
      rw [bag_mv hA hf.1 (lub_floor (hAB x hx)), bag_mv hB hf.1 (lub_floor (hAB x hx))]
      exact seen_inj (h x hx) r
  · intro h x hx
    have hl := lub_floor (hAB x hx)
    refine seen_eq fun r => ?_
    rw [← bag_mv hA hf.1 hl, ← bag_mv hB hf.1 hl, ← bag_canon, h, bag_canon]
theorem agree_eq {w n : Nat} {A B : List Chg} {fl : List Int} {st : Sto} (hw1 : 1 ≤ w) (hn : n ≤ 1000) (ha : A.length ≤ 100000) (hb : B.length ≤ 100000) (hA : CH w n A) (hB : CH w n B) (hf : Tq n fl) : f_law_agree [.lst (A.map chP), .lst (B.map chP), tT fl] st = some (.bl (decide (canon (mv fl A) = canon (mv fl B))), st) := by
  have ne : ∀ {X : List Chg}, CH w n X → ∀ x ∈ X, x.1 ≠ [] ∧ x.2.1.length = n := fun {X} h x hx => ⟨fun e => by have := (h x hx).1; rw [e] at this; have this : 0 = w := this; omega, (h x hx).2⟩
  have hiff := mv_iff (fun x hx => (hA x hx).2) (fun x hx => (hB x hx).2) hf
  unfold f_law_agree
  refine runF_eq rfl (lb_bl _ _) ?_
  show wp (D_law_agree [some (.lst (A.map chP)), some (.lst (B.map chP)), some (tT fl), none, none] st) _
  unfold D_law_agree
  walk_at "go"
  refine wp_eq (add_maps (f := chP) (a := A) (b := B) (by omega)) ?_
  walk_at "go"
  refine forGo_wp (its := ⟨(A ++ B).map chP, none⟩) (fun k env s => s = st ∧ (∃ u3 u4, env = [some (.lst (A.map chP)), some (.lst (B.map chP)), some (tT fl), u3, u4]) ∧ ∀ x ∈ (A ++ B).take k, seen A (lubL x.2.1 fl) = seen B (lubL x.2.1 fl)) _ (fun k x env s hx hI => ?_) (fun env s hI => ?_) ⟨rfl, ⟨_, _, rfl⟩, fun x z => (by cases z)⟩
  · obtain ⟨rfl, ⟨u3, u4, rfl⟩, hall⟩ := hI
    obtain ⟨y, hy, hm, rfl⟩ := get_map hx
    have hyl : y.2.1.length = n := by
      rcases List.mem_append.mp hm with hm | hm
      · exact (hA y hm).2
      · exact (hB y hm).2
    have hql : (lubL y.2.1 fl).length = n := by rw [lubL_len (by rw [hyl, hf.1]), hyl]
    refine ⟨Its.ok_none, wp_eq rfl ?_⟩
    walk_at "go"
    refine wp_eq (join_eq (by rw [hyl, hf.1]) (by rw [hyl]; exact hn)) ?_
    refine wp_set rfl tT_lb ?_
    walk_at "go"
    refine wp_eq (seen_wp hn (by omega) (ne hA) hql rfl) ?_
    refine wp_set rfl prs_lbV ?_
    walk_at "go"
    refine wp_eq (seen_wp hn (by omega) (ne hB) hql rfl) ?_
    refine wp_set rfl prs_lbV ?_
    walk_at "go"
    refine wp_eq (prE.list.cmpEq (a := seen A (lubL y.2.1 fl)) (b := seen B (lubL y.2.1 fl)) rfl rfl (by decide)) ?_
    walk_at "go"
    by_cases e : seen A (lubL y.2.1 fl) = seen B (lubL y.2.1 fl)
    · rw [decide_eq_true e]
      walk_at "go"
      refine ⟨rfl, ⟨_, _, rfl⟩, fun x hx => ?_⟩
      rw [take_step hy] at hx
      rcases List.mem_append.mp hx with hx | hx
      · exact hall x hx
      · rw [List.mem_singleton] at hx; rw [hx]; exact e
    · rw [decide_eq_false e]
      walk_at "go"
      rw [decide_eq_false fun z => e (hiff.mpr z y hm)]
      exact ⟨rfl, rfl⟩
  · obtain ⟨rfl, ⟨u3, u4, rfl⟩, hall⟩ := hI
    rw [show (Its.mk ((A ++ B).map chP) none).items.length = (A ++ B).length from List.length_map _, List.take_length] at hall
    refine ⟨Its.ok_none, ?_⟩
    walk_at "go"
    rw [decide_eq_true (hiff.mp hall)]
    exact ⟨rfl, rfl⟩
theorem same_bl {b : Bool} {st : Sto} : f_law_same 6 [.bl b, .bl b] st = some (.bl true, st) := same_ok (v := .bl b) rfl rfl plain_bl
theorem alike_right_eq {w n : Nat} {A B : List Chg} {fl : List Int} {st : Sto} (hw : w ≤ 1000) (hn : n ≤ 1000) (ha : A.length ≤ 100000) (hb : B.length ≤ 100000) (hA : CH w n A) (hB : CH w n B) (hf : fl.length = n) : f_law_alike_right [.lst (A.map chP), .lst (B.map chP), tT fl, .bl (decide (canon (mv fl A) = canon (mv fl B)))] st = some (.bl true, st) := by
  unfold f_law_alike_right
  refine runF_eq rfl (lb_bl _ _) ?_
  show wp (D_law_alike_right [some (.lst (A.map chP)), some (.lst (B.map chP)), some (tT fl), some (.bl (decide (canon (mv fl A) = canon (mv fl B)))), none, none] st) _
  have hsym : decide (canon (mv fl B) = canon (mv fl A)) = decide (canon (mv fl A) = canon (mv fl B)) := by
    by_cases e : canon (mv fl A) = canon (mv fl B)
    · rw [decide_eq_true e, decide_eq_true e.symm]
    · rw [decide_eq_false e, decide_eq_false fun z => e z.symm]
  unfold D_law_alike_right
  walk_at "go"
  refine wp_eq (bList_v (v := .lst (A.map chP)) rfl (by rw [List.length_map]; omega)) ?_
  walk_at "go"
  refine wp_eq (bList_v (v := .lst (B.map chP)) rfl (by rw [List.length_map]; omega)) ?_
  walk_at "go"
  refine wp_eq (alike_eq hn (by omega) (by omega) (fun x hx => (hA x hx).2) (fun x hx => (hB x hx).2) hf) ?_
  walk_at "go"
  refine wp_eq same_bl ?_
  walk_at "go"
  refine wp_eq (a := .bl (decide (canon (mv fl A) = canon (mv fl B)))) (s := st) (by rw [← hsym]; exact alike_eq hn (by omega) (by omega) (fun x hx => (hB x hx).2) (fun x hx => (hA x hx).2) hf) ?_
  walk_at "go"
  refine wp_eq same_bl ?_
  walk_at "go"
  refine wp_eq (same_ok (v := .lst (A.map chP)) rfl rfl (plain_chs hA hw hn (by omega))) ?_
  walk_at "go"
  refine wp_eq (same_ok (v := .lst (B.map chP)) rfl rfl (plain_chs hB hw hn (by omega))) ?_
  walk_at "go"
  exact ⟨rfl, rfl⟩
end DL

namespace DL
open PySem L2
local macro_rules | `(tactic| walk_at "go") => `(tactic| repeat (first | refine wp_mb ?_ | with_reducible refine wp_mul (by first | assumption | (exact okMul_iff.mpr (by omega))) ?_ | with_reducible refine wp_mod (by first | assumption | (exact okMod_iff.mpr (by omega))) ?_ | with_reducible refine wp_div (by first | assumption | (exact okDiv_iff.mpr (by omega))) ?_ | with_reducible refine wp_pow (by first | assumption | (exact okPow_iff.mpr (by decide))) ?_ | ((with_reducible refine wp_set ?_ ?_ ?_); (focus rfl); (focus first | exact tT_lb | exact lb_int _ _ | exact lb_bl _ _ | exact lb_non _ | assumption)) | refine wp_eq rfl ?_))
/-! W2 of k07: draws -/
theorem fresh_wp {p w n : Nat} {st : Sto} {rs span : Int} {Q : PV → Sto → Prop} (h : Pool p st) (hn : n ≤ 1000) (hw : w ≤ 1000) (hr : 0 < rs) (hs : 0 < span) (q : ∀ x st', x.1.length = w → x.2.1.length = n → Dr p st st' → Q (chP x) st') : wp (f_law_fresh [.loc p, shP w rs n span] st) Q := by
  unfold f_law_fresh
  refine wp_runF rfl ?_
  show wp (D_law_fresh [some (.loc p), some (shP w rs n span), none] st) _
  unfold D_law_fresh
  walk_at "go"
  refine draw_wp h (by decide) fun r1 s1 a1 b1 d1 => ?_
  refine wp_set (by rw [d1.nxt]) (lb_int _ _) ?_
  walk_at "go"
  refine draw_wp (h.dr d1) (by decide) fun r2 s2 a2 b2 d2 => ?_
  refine wp_set (by rw [d2.nxt]) (lb_int _ _) ?_
  walk_at "go"
  have d12 := d1.trans d2
  refine pick_wp (h.dr d12) (fun _ _ => rfl) (by show 0 < 6; decide) (by intro x hx; simp only [List.mem_cons, List.not_mem_nil, or_false] at hx; rcases hx with rfl | rfl | rfl | rfl | rfl | rfl <;> exact lb_int _ _) fun x s3 hx d3 => ?_
  obtain ⟨c, rfl⟩ : ∃ c, x = .int c := by
    simp only [List.mem_cons, List.not_mem_nil, or_false] at hx
    rcases hx with rfl | rfl | rfl | rfl | rfl | rfl <;> exact ⟨_, rfl⟩
  have d13 := d12.trans d3
  refine wp_set (by rw [d3.nxt]) (lb_int _ _) ?_
  walk_at "go"
  refine moment_wp (h.dr d13) hr hw fun r s4 hrl _ d4 => ?_
  refine wp_set (by rw [d4.nxt]) tT_lb ?_
  have d14 := d13.trans d4
  walk_at "go"
  refine moment_wp (h.dr d14) hs hn fun t s5 htl _ d5 => ?_
  refine wp_set (by rw [d5.nxt]) tT_lb ?_
  have d15 := d14.trans d5
  walk_at "go"
  refine wp_eq (fin_val (chP_lb (x := (r, t, c)))) ?_
  rw [d15.restr]
  exact q (r, t, c) s5 hrl htl d15
theorem changes_wp {p w n many : Nat} {st : Sto} {rs span : Int} {Q : PV → Sto → Prop} (h : Pool p st) (hn : n ≤ 1000) (hw : w ≤ 1000) (hr : 0 < rs) (hs : 0 < span) (hm : many ≤ 1000)
    (q : ∀ L st', L.length = many → CH w n L → Dr p st st' → Q (.loc st'.nxt) (st'.alloc (.lst (L.map chP)))) : wp (f_law_changes [.loc p, shP w rs n span, .int many] st) Q := by
  unfold f_law_changes
  refine wp_runF rfl ?_
  show wp (D_law_changes [some (.loc p), some (shP w rs n span), some (.int many), none, none, none, none, none] st) _
  unfold D_law_changes
  refine wp_mb (wp_mb (wp_mb (wp_eq rfl ?_)))
  refine wp_eq (mkM_eq (xs := ([] : List Chg).map chP) (by decide) (lbs_nil _)) ?_
  have h0 : PL p st.nxt st (st.alloc (.lst (([] : List Chg).map chP))) (.lst (([] : List Chg).map chP)) := PL.new h chs_lbC
  generalize st.alloc (.lst (([] : List Chg).map chP)) = s0 at h0 ⊢
  obtain ⟨l, hl⟩ : ∃ l, l = st.nxt := ⟨_, rfl⟩
  rw [← hl] at h0
  walk_at "go"
  refine wp_pos (okR (by omega)) ?_
  walk_at "go"
  refine forGo_wp (its := ⟨rng 0 (many : Int), none⟩) (fun k env s => (∃ u4 u5 u6 u7, env = [some (.loc p), some (shP w rs n span), some (.int many), some (.loc l), u4, u5, u6, u7]) ∧ ∃ L : List Chg, PL p l st s (.lst (L.map chP)) ∧ L.length = k ∧ CH w n L) _ (fun k x env s hx hI => ?_) (fun env s hI => ?_) ⟨⟨_, _, _, _, by rw [hl]; rfl⟩, [], h0, rfl, .nil⟩
  · obtain ⟨⟨u4, u5, u6, u7, rfl⟩, L, hP, hL, hC⟩ := hI
    clear h0
    obtain ⟨hk, rfl⟩ := rng_get hx
    refine ⟨Its.ok_none, wp_eq rfl ?_⟩
    refine wp_seqK ?_
    intro K hK
    walk_at "go"
    refine fresh_wp hP.pool hn hw hr hs fun f s1 hf1 hf2 d1 => ?_
    refine wp_set (by rw [d1.nxt]) chP_lb ?_
    have hP1 := hP.dr d1
    clear hP d1
    walk_at "go"
    refine wp_nx hK ?_
    clear hK
    refine wp_seqK ?_
    intro K hK
    walk_at "go"
    refine draw_wp hP1.pool (by decide) fun way s2 w0 w1 d2 => ?_
    refine wp_set (by rw [d2.nxt]) (lb_int _ _) ?_
    have hP2 := hP1.dr d2
    clear hP1 d2
    walk_at "go"
    refine wp_nx hK ?_
    clear hK
    refine wp_seqK ?_
    intro K hK
    refine wp_mono (R := fun fl s' => (∃ g w7, fl = .nx [some (.loc p), some (shP w rs n span), some (.int many), some (.loc l), some (.int ((0 : Int) + (k : Int))), some (chP g), some (.int way), w7] ∧ g.1.length = w ∧ g.2.1.length = n) ∧ PL p l st s' (.lst (L.map chP))) ?_ fun fl s3 h' => ?_
    · walk_at "go"
      refine wp_if (fun h1 => ?_) (fun h1 => ?_)
      · have h1 : 0 < L.length := by have := of_decide_eq_true h1; omega
        walk_at "go"
        refine wp_if (fun h2 => ?_) (fun h2 => ?_)
        · have h2 : way < 3 := of_decide_eq_true h2
          walk_at "go"
          refine pick_wp hP2.pool (fun st' d => loc_seq (hP2.dr d).at') (by rw [List.length_map]; exact h1) (fun x hx => by obtain ⟨y, _, rfl⟩ := get_chs hx; exact chP_lb) fun x s3 hx d3 => ?_
          obtain ⟨y, hy, rfl⟩ := get_chs hx
          refine wp_set (by rw [d3.nxt]) chP_lb ?_
          have hP3 := hP2.dr d3
          walk_at "go"
          obtain ⟨a, ea, ha⟩ : ∃ a : List Int, opIx (.lst [tT y.1, tT y.1, tT f.1]) (.int way) s3 = some (tT a, s3) ∧ a.length = w := by
            have : way = 0 ∨ way = 1 ∨ way = 2 := by omega
            rcases this with rfl | rfl | rfl
            · exact ⟨y.1, rfl, (hC y hy).1⟩
            · exact ⟨y.1, rfl, (hC y hy).1⟩
            · exact ⟨f.1, rfl, hf1⟩
          refine wp_eq ea ?_
          walk_at "go"
          obtain ⟨b, eb, hb⟩ : ∃ b : List Int, opIx (.lst [tT y.2.1, tT f.2.1, tT y.2.1]) (.int way) s3 = some (tT b, s3) ∧ b.length = n := by
            have : way = 0 ∨ way = 1 ∨ way = 2 := by omega
            rcases this with rfl | rfl | rfl
            · exact ⟨y.2.1, rfl, (hC y hy).2⟩
            · exact ⟨f.2.1, rfl, hf2⟩
            · exact ⟨y.2.1, rfl, (hC y hy).2⟩
          refine wp_eq eb ?_
          walk_at "go"
          exact ⟨⟨(a, b, f.2.2), _, rfl, ha, hb⟩, hP3⟩
        · walk_at "go"
          exact ⟨⟨f, _, rfl, hf1, hf2⟩, hP2⟩
      · walk_at "go"
        exact ⟨⟨f, _, rfl, hf1, hf2⟩, hP2⟩
    obtain ⟨⟨g, w7, rfl, hg1, hg2⟩, hP3⟩ := h'
    clear hP2
    refine wp_nx hK ?_
    clear hK
    walk_at "go"
    refine wp_eq (loc_asL hP3.at') ?_
    walk_at "go"
    refine wp_eq (app_chs (x := g) hP3.at' (by omega)) ?_
    walk_at "go"
    exact ⟨⟨_, _, _, _, rfl⟩, L ++ [g], hP3.put chs_lbC, by rw [List.length_append, List.length_singleton, hL], hC.snoc hg1 hg2⟩
  · obtain ⟨⟨u4, u5, u6, u7, rfl⟩, L, hP, hL, hC⟩ := hI
    rw [rng_len] at hL
    refine ⟨Its.ok_none, ?_⟩
    walk_at "go"
    refine wp_eq (hP.fin chs_lbC) ?_
    exact q L (s.restr st.nxt) hL hC hP.drx.2
theorem beside_wp {p n : Nat} {st : Sto} {t fl : List Int} {Q : PV → Sto → Prop} (h : Pool p st) (hn : n ≤ 1000) (ht : t.length = n) (hf : Tq n fl) (q : ∀ a st', a.length = n → Dr p st st' → Q (tT a) st') : wp (f_law_beside [.loc p, tT t, tT fl] st) Q := by
  unfold f_law_beside
  refine wp_runF rfl ?_
  show wp (D_law_beside [some (.loc p), some (tT t), some (tT fl), none] st) _
  unfold D_law_beside
  walk_at "go"
  rw [List.length_map, ht]
  refine wp_pos (okR (by omega)) ?_
  walk_at "go"
  refine lcGo_wp (its := ⟨rng 0 (n : Int), none⟩) (fun j done s' => Dr p st s' ∧ ∃ a : List Int, done = a.map .int ∧ a.length = j) _ (fun j x done s' hx hI => ?_) (fun done s' hI => ?_) ⟨.refl h, [], rfl, rfl⟩
  · obtain ⟨d3, a, rfl, rfl⟩ := hI
    obtain ⟨hj, rfl⟩ := rng_get hx
    have hj1 : a.length < t.length := by omega
    have hj2 : a.length < fl.length := by have := hf.1; omega
    have hnn := hf.2 fl[a.length] (List.getElem_mem hj2)
    refine ⟨Its.ok_none, ?_⟩
    walk_at "go"
    rw [tup_ix hj1]
    walk_at "go"
    rw [tup_ix hj2]
    walk_at "go"
    refine draw_wp (h.dr d3) (by omega) fun r s4 a1 b1 d4 => ?_
    refine wp_set (by rw [d4.nxt]) (lb_int _ _) ?_
    walk_at "go"
    rw [tup_ix hj1]
    walk_at "go"
    rw [tup_ix hj2]
    walk_at "go"
    obtain ⟨i, ei⟩ : ∃ i : Int, opIx (.lst [.int t[a.length], .int r]) (.int (if decide (t[a.length] ≤ fl[a.length]) = true then 1 else 0)) s4 = some (.int i, s4) := by
      split
      · exact ⟨r, rfl⟩
      · exact ⟨t[a.length], rfl⟩
    refine wp_eq ei ?_
    walk_at "go"
    exact ⟨d3.trans d4, a ++ [_], by rw [List.map_append]; rfl, by rw [List.length_append]; rfl⟩
  · obtain ⟨d3, a, rfl, ha⟩ := hI
    rw [rng_len] at ha
    refine ⟨Its.ok_none, ?_⟩
    refine wp_eq (mkV_eq (okL (by rw [List.length_map]; omega))) ?_
    walk_at "go"
    refine wp_eq (a := tT a) (s := s') (mkT_eq (okL (by rw [List.length_map]; omega))) ?_
    walk_at "go"
    refine wp_eq (fin_val tT_lb) ?_
    rw [d3.restr]
    exact q a s' ha d3
theorem detour_wp {p w n : Nat} {st : Sto} {L : List Chg} {fl : List Int} {rs span : Int} {Q : PV → Sto → Prop} (h : Pool p st) (hn : n ≤ 1000) (hw : w ≤ 1000) (hL : CH w n L) (hLl : L.length ≤ 1000) (hf : Tq n fl) (hr : 0 < rs) (hs : 0 < span)
    (q : ∀ M st', CH w n M → M.length ≤ 3000 → Dr p st st' → Q (.lst (M.map chP)) st') : wp (f_law_detour [.loc p, .lst (L.map chP), tT fl, shP w rs n span] st) Q := by
  unfold f_law_detour
  refine wp_runF rfl ?_
  show wp (D_law_detour [some (.loc p), some (.lst (L.map chP)), some (tT fl), some (shP w rs n span), none, none, none, none, none, none] st) _
  unfold D_law_detour
  refine wp_mb (wp_mb (wp_mb (wp_eq rfl ?_)))
  refine wp_eq (mkM_eq (xs := ([] : List Chg).map chP) (by decide) (lbs_nil _)) ?_
  have h0 : PL p st.nxt st (st.alloc (.lst (([] : List Chg).map chP))) (.lst (([] : List Chg).map chP)) := PL.new h chs_lbC
  generalize st.alloc (.lst (([] : List Chg).map chP)) = s0 at h0 ⊢
  obtain ⟨l, hl⟩ : ∃ l, l = st.nxt := ⟨_, rfl⟩
  rw [← hl] at h0
  refine wp_mb (wp_eq rfl (wp_ret ?_))
  refine wp_seqK ?_
  intro K hK
  walk_at "go"
  refine forGo_wp (its := ⟨L.map chP, none⟩) (fun k env s => (∃ u5 u6, env = [some (.loc p), some (.lst (L.map chP)), some (tT fl), some (shP w rs n span), some (.loc l), u5, u6, none, none, none]) ∧ ∃ R : List Chg, PL p l st s (.lst (R.map chP)) ∧ R.length ≤ 2 * k ∧ CH w n R) _ (fun k x env s hx hI => ?_) (fun env s hI => ?_) ⟨⟨_, _, by rw [hl]; rfl⟩, [], h0, Nat.le_refl _, .nil⟩
  · obtain ⟨⟨u5, u6, rfl⟩, R, hP, hR, hC⟩ := hI
    clear h0 hK
    obtain ⟨y, hy, hm, rfl⟩ := get_map hx
    have hk := (List.getElem?_eq_some_iff.mp hy).1
    refine ⟨Its.ok_none, wp_eq rfl ?_⟩
    refine wp_seqK ?_
    intro K hK
    walk_at "go"
    refine draw_wp hP.pool (by decide) fun i s1 i0 i1 d1 => ?_
    refine wp_set (by rw [d1.nxt]) (lb_int _ _) ?_
    have hP1 := hP.dr d1
    clear hP d1
    walk_at "go"
    refine wp_nx hK ?_
    clear hK
    generalize i - 3 = m
    refine wp_seqK ?_
    intro K hK
    walk_at "go"
    refine wp_eq (loc_asL hP1.at') ?_
    walk_at "go"
    refine beside_wp hP1.pool hn (hL y hm).2 hf fun a s2 ha d2 => ?_
    refine wp_set (by rw [d2.nxt]) tT_lb ?_
    have hP2 := hP1.dr d2
    clear hP1 d2
    walk_at "go"
    refine wp_eq (app_chs (x := (y.1, a, y.2.2 - m)) hP2.at' (by omega)) ?_
    have hP3 : PL p l st (s2.set l (.lst ((R ++ [(y.1, a, y.2.2 - m)]).map chP))) (.lst ((R ++ [(y.1, a, y.2.2 - m)]).map chP)) := hP2.put chs_lbC
    generalize s2.set l (.lst ((R ++ [(y.1, a, y.2.2 - m)]).map chP)) = s3 at hP3 ⊢
    clear hP2
    walk_at "go"
    refine wp_nx hK ?_
    clear hK
    have hC1 := hC.snoc (x := (y.1, a, y.2.2 - m)) (hL y hm).1 ha
    walk_at "go"
    rw [eqv_int]
    refine wp_if (fun h1 => ?_) (fun h1 => ?_)
    · walk_at "go"
      refine wp_eq (loc_asL hP3.at') ?_
      walk_at "go"
      refine beside_wp hP3.pool hn (hL y hm).2 hf fun b s4 hb d4 => ?_
      refine wp_set (by rw [d4.nxt]) tT_lb ?_
      have hP4 := hP3.dr d4
      clear hP3 d4
      walk_at "go"
      refine wp_eq (app_chs (x := (y.1, b, m)) hP4.at' (by rw [List.length_append, List.length_singleton]; omega)) ?_
      walk_at "go"
      exact ⟨⟨_, _, rfl⟩, R ++ [(y.1, a, y.2.2 - m)] ++ [(y.1, b, m)], hP4.put chs_lbC, by rw [List.length_append, List.length_append, List.length_singleton, List.length_singleton]; omega, hC1.snoc (x := (y.1, b, m)) (hL y hm).1 hb⟩
    · walk_at "go"
      exact ⟨⟨_, _, rfl⟩, R ++ [(y.1, a, y.2.2 - m)], hP3, by rw [List.length_append, List.length_singleton]; omega, hC1⟩
  obtain ⟨⟨u5, u6, rfl⟩, R, hP, hR, hC⟩ := hI
  rw [show (Its.mk (L.map chP) none).items.length = L.length from List.length_map _] at hR
  refine ⟨Its.ok_none, ?_⟩
  refine wp_nx hK ?_
  clear hK h0
  refine wp_seqK ?_
  intro K hK
  walk_at "go"
  refine draw_wp hP.pool (by decide) fun i s1 i0 i1 d1 => ?_
  refine wp_set (by rw [d1.nxt]) (lb_int _ _) ?_
  have hP1 := hP.dr d1
  clear hP d1
  obtain ⟨mm, rfl⟩ := Int.eq_ofNat_of_zero_le i0
  walk_at "go"
  refine wp_pos (okR (by omega)) ?_
  walk_at "go"
  refine forGo_wp (its := ⟨rng 0 (mm : Int), none⟩) (fun k env s => (∃ u5 u6 u7 u8, env = [some (.loc p), some (.lst (L.map chP)), some (tT fl), some (shP w rs n span), some (.loc l), u5, u6, u7, u8, none]) ∧ ∃ R : List Chg, PL p l st s (.lst (R.map chP)) ∧ R.length ≤ 2 * L.length + 2 * k ∧ CH w n R) _ (fun k x env s hx hI => ?_) (fun env s hI => ?_) ⟨⟨_, _, _, _, rfl⟩, R, hP1, by omega, hC⟩
  · obtain ⟨⟨u5, u6, u7, u8, rfl⟩, R, hP, hR, hC⟩ := hI
    clear hP1 hK
    obtain ⟨hk, rfl⟩ := rng_get hx
    refine ⟨Its.ok_none, wp_eq rfl ?_⟩
    refine wp_seqK ?_
    intro K hK
    walk_at "go"
    refine fresh_wp hP.pool hn hw hr hs fun f s2 hf1 hf2 d2 => ?_
    refine wp_set (by rw [d2.nxt]) chP_lb ?_
    have hP2 := hP.dr d2
    clear hP d2
    walk_at "go"
    refine wp_nx hK ?_
    clear hK
    refine wp_seqK ?_
    intro K hK
    walk_at "go"
    refine wp_eq (loc_asL hP2.at') ?_
    walk_at "go"
    refine wp_eq (app_chs (x := f) hP2.at' (by omega)) ?_
    have hP4 : PL p l st (s2.set l (.lst ((R ++ [f]).map chP))) (.lst ((R ++ [f]).map chP)) := hP2.put chs_lbC
    generalize s2.set l (.lst ((R ++ [f]).map chP)) = s4 at hP4 ⊢
    clear hP2
    walk_at "go"
    refine wp_nx hK ?_
    clear hK
    walk_at "go"
    refine wp_eq (loc_asL hP4.at') ?_
    walk_at "go"
    refine beside_wp hP4.pool hn hf2 hf fun b s5 hb d5 => ?_
    refine wp_set (by rw [d5.nxt]) tT_lb ?_
    have hP5 := hP4.dr d5
    clear hP4 d5
    walk_at "go"
    refine wp_eq (app_chs (x := (f.1, b, -f.2.2)) hP5.at' (by rw [List.length_append, List.length_singleton]; omega)) ?_
    walk_at "go"
    exact ⟨⟨_, _, _, _, rfl⟩, R ++ [f] ++ [(f.1, b, -f.2.2)], hP5.put chs_lbC, by rw [List.length_append, List.length_append, List.length_singleton, List.length_singleton]; omega, (hC.snoc hf1 hf2).snoc (x := (f.1, b, -f.2.2)) hf1 hb⟩
  obtain ⟨⟨u5, u6, u7, u8, rfl⟩, R, hP, hR, hC⟩ := hI
  rw [rng_len] at hR
  refine ⟨Its.ok_none, ?_⟩
  refine wp_nx hK ?_
  clear hK hP1
  refine wp_seqK ?_
  intro K hK
  walk_at "go"
  refine wp_eq (loc_len hP.at') ?_
  walk_at "go"
  rw [List.length_map]
  refine draw_wp hP.pool (by omega) fun ai s2 a0 a1 d2 => ?_
  refine wp_set (by rw [d2.nxt]) (lb_int _ _) ?_
  have hP2 := hP.dr d2
  clear hP d2
  obtain ⟨at', rfl⟩ := Int.eq_ofNat_of_zero_le a0
  have hat : at' ≤ R.length := by omega
  walk_at "go"
  refine wp_nx hK ?_
  refine wp_mb (wp_mb ?_)
  refine wp_eq (sl_eq rfl rfl rfl (lst_loc hP2.at') (by rw [cutC_from rfl hat, List.length_map, List.length_drop]; omega)) ?_
  rw [cutC_from rfl hat]
  refine wp_mb ?_
  refine wp_eq (sl_eq rfl rfl rfl (lst_loc hP2.at') (by rw [cutC_to rfl hat, List.length_map, List.length_take]; omega)) ?_
  rw [cutC_to rfl hat]
  refine wp_eq (add_maps (by rw [List.length_drop, List.length_take]; omega)) ?_
  walk_at "go"
  refine wp_eq (fin_val chs_lbV) ?_
  refine q (R.drop at' ++ R.take at') (s2.restr st.nxt) (fun x hx => ?_) (by rw [List.length_append, List.length_drop, List.length_take]; omega) hP2.drx.2
  rcases List.mem_append.mp hx with hx | hx
  · exact hC x (List.mem_of_mem_drop hx)
  · exact hC x (List.mem_of_mem_take hx)
end DL

namespace DL
open PySem L2
local macro_rules | `(tactic| walk_at "go") => `(tactic| repeat (first | refine wp_mb ?_ | with_reducible refine wp_mul (by first | assumption | (exact okMul_iff.mpr (by omega))) ?_ | with_reducible refine wp_mod (by first | assumption | (exact okMod_iff.mpr (by omega))) ?_ | with_reducible refine wp_div (by first | assumption | (exact okDiv_iff.mpr (by omega))) ?_ | with_reducible refine wp_pow (by first | assumption | (exact okPow_iff.mpr (by decide))) ?_ | ((with_reducible refine wp_set ?_ ?_ ?_); (focus rfl); (focus first | exact tT_lb | exact lb_int _ _ | exact lb_bl _ _ | exact lb_non _ | assumption)) | refine wp_eq rfl ?_))
/-! W3 of k07: bent, ordered and spoilt lists -/
theorem chs_ix {R : List Chg} {i : Int} {k : Nat} (hi : i = (k : Int)) (h : k < R.length) {st : Sto} : opIx (.lst (R.map chP)) (.int i) st = some (chP R[k], st) := by
  subst hi
  exact seq_ix rfl (atI_nat (by rw [List.getElem?_map, List.getElem?_eq_getElem h]; rfl))
theorem ins_chs {l : Nat} {s : Sto} {R : List Chg} {x : Chg} {i : Int} {k : Nat} (h : s.cs l = some (.lst (R.map chP))) (hi : i = (k : Int)) (hk : k ≤ 1000000) (hz : R.length ≤ 1000000) : mInsert l [.int i, chP x] s = some (.non, s.set l (.lst ((R.take k ++ [x] ++ R.drop k).map chP))) := by
  subst hi
  show (match s.cs l with | some (.lst xs) => (if xs.length < sizeLine && (chP x).lb s.nxt && okRng (k : Int) && decide (0 ≤ (k : Int)) then some (PV.non, s.set l (.lst (xs.take (k : Int).toNat ++ [chP x] ++ xs.drop (k : Int).toNat))) else none) | _ => none) = _
  rw [h]
  show (if (R.map chP).length < sizeLine && (chP x).lb s.nxt && okRng (k : Int) && decide (0 ≤ (k : Int)) then some (PV.non, s.set l (.lst ((R.map chP).take (k : Int).toNat ++ [chP x] ++ (R.map chP).drop (k : Int).toNat))) else none) = _
  rw [chP_lb, okR hk, decide_eq_true (show 0 ≤ (k : Int) by omega), decide_eq_true (show (R.map chP).length < sizeLine by rw [List.length_map, sizeLine_eq]; omega), if_pos (show (true && true && true && true) = true from rfl), Int.toNat_natCast, List.map_append, List.map_append, List.map_take, List.map_drop]
  rfl
theorem pop_chs {l : Nat} {s : Sto} {R : List Chg} {i : Int} {k : Nat} (h : s.cs l = some (.lst (R.map chP))) (hi : i = (k : Int)) (hk : k < R.length) (hz : R.length ≤ 1000000) : mPopAt l [.int i] s = some (chP R[k], s.set l (.lst ((R.eraseIdx k).map chP))) := by
  subst hi
  show (match s.cs l with | some (.lst xs) => (match seqIndex? (k : Int) xs.length with | some j => (match xs[j]? with | some y => (if okRng (k : Int) then some (y, s.set l (.lst (xs.eraseIdx j))) else none) | none => none) | none => none) | _ => none) = _
  rw [h]
  show (match seqIndex? (k : Int) (R.map chP).length with | some j => (match (R.map chP)[j]? with | some y => (if okRng (k : Int) then some (y, s.set l (.lst ((R.map chP).eraseIdx j))) else none) | none => none) | none => none) = _
  rw [seqIndex_of (by omega) (by rw [List.length_map]; omega), Int.toNat_natCast]
  show (match (R.map chP)[k]? with | some y => (if okRng (k : Int) then some (y, s.set l (.lst ((R.map chP).eraseIdx k))) else none) | none => none) = _
  rw [List.getElem?_map, List.getElem?_eq_getElem hk]
  show (if okRng (k : Int) then some (chP R[k], s.set l (.lst ((R.map chP).eraseIdx k))) else none) = _
  rw [okR (by omega), if_pos rfl, List.eraseIdx_eq_take_drop_succ, List.eraseIdx_eq_take_drop_succ, List.map_append, List.map_take, List.map_drop]
theorem ixN_at {n j : Nat} (h : j < n) : ixN n (j : Int) = some j := by
  unfold ixN
  rw [if_pos (by omega), if_pos (by omega), Int.toNat_natCast]
theorem set_chs {l : Nat} {s : Sto} {R : List Chg} {x : Chg} {i : Int} {k : Nat} (h : s.cs l = some (.lst (R.map chP))) (hi : i = (k : Int)) (hk : k < R.length) : setL (.loc l) (.int i) (chP x) s = some (s.set l (.lst ((R.set k x).map chP))) := by
  subst hi
  rw [loc_set h (j := k) (by rw [List.length_map]; exact ixN_at hk) chP_lb, List.map_set]
theorem leqB_iff : ∀ {a b : List Int}, leqB a b = true ↔ a.length = b.length ∧ ∀ k (ha : k < a.length) (hb : k < b.length), a[k] ≤ b[k]
  | [], [] => ⟨fun _ => ⟨rfl, fun k ha _ => by cases ha⟩, fun _ => rfl⟩
  | [], _ :: _ => ⟨fun h => (by cases h), fun h => (by cases h.1)⟩
  | _ :: _, [] => ⟨fun h => (by cases h), fun h => (by cases h.1)⟩
  | x :: a, y :: b => by
    rw [leqB, Bool.and_eq_true, decide_eq_true_iff, leqB_iff (a := a) (b := b)]
    constructor
    · rintro ⟨h1, h2, h3⟩
      refine ⟨by rw [List.length_cons, List.length_cons, h2], fun k ha hb => ?_⟩
      cases k with
      | zero => exact h1
      | succ k => exact h3 k (by rw [List.length_cons] at ha; omega) (by rw [List.length_cons] at hb; omega)
    · rintro ⟨h1, h2⟩
      refine ⟨h2 0 (by rw [List.length_cons]; omega) (by rw [List.length_cons]; omega), by rw [List.length_cons, List.length_cons] at h1; omega, fun k ha hb => ?_⟩
      exact h2 (k + 1) (by rw [List.length_cons]; omega) (by rw [List.length_cons]; omega)
theorem raise_leq {z t : List Int} {k : Nat} {m : Int} (h : leqB z t = true) (hk : k < z.length) (hm : z[k] ≤ m) : leqB z (t.take k ++ [m] ++ t.drop (k + 1)) = true := by
  have hl := leqB_eqlen h
  have e : t.take k ++ [m] ++ t.drop (k + 1) = t.set k m := by
    rw [List.set_eq_take_append_cons_drop, if_pos (by omega), List.append_assoc]; rfl
  rw [e]
  obtain ⟨_, h2⟩ := leqB_iff.mp h
  refine leqB_iff.mpr ⟨by rw [List.length_set]; exact hl, fun j ha hb => ?_⟩
  rw [List.getElem_set]
  split
  · rename_i e
    subst e
    exact hm
  · exact h2 j ha (by omega)
/-- a change as it is wanted -/
def Gd (w n : Nat) (z : List Int) (R : List Chg) (x : Chg) : Prop := x.1.length = w ∧ x.2.1.length = n ∧ ((∀ y ∈ R, leqB z y.2.1 = true) → leqB z x.2.1 = true)
theorem bent_wp {p w n : Nat} {st : Sto} {R : List Chg} {z : List Int} {rs span : Int} {Q : PV → Sto → Prop} (h : Pool p st) (hn1 : 1 ≤ n) (hn : n ≤ 1000) (hw : w ≤ 1000) (hR : CH w n R) (hRl : R.length ≤ 5000) (hz : z.length = n) (hz9 : ∀ c ∈ z, c ≤ 99) (hr : 0 < rs) (hs : 0 < span)
    (q : ∀ M st', CH w n M → M.length ≤ R.length + 1 → ((∀ x ∈ R, leqB z x.2.1 = true) → ∀ x ∈ M, leqB z x.2.1 = true) → Dr p st st' → Q (.loc st'.nxt) (st'.alloc (.lst (M.map chP)))) : wp (f_law_bent [.loc p, .lst (R.map chP), tT z, shP w rs n span] st) Q := by
  have hGR : ∀ x ∈ R, Gd w n z R x := fun x hx => ⟨(hR x hx).1, (hR x hx).2, fun a => a x hx⟩
  have q' : ∀ (M : List Chg) (st' : Sto), (∀ x ∈ M, Gd w n z R x) → M.length ≤ R.length + 1 → Dr p st st' → Q (.loc st'.nxt) (st'.alloc (.lst (M.map chP))) := fun M st' hM hl d =>
    q M st' (fun x hx => ⟨(hM x hx).1, (hM x hx).2.1⟩) hl (fun a x hx => (hM x hx).2.2 a) d
  unfold f_law_bent
  refine wp_runF rfl ?_
  show wp (D_law_bent [some (.loc p), some (.lst (R.map chP)), some (tT z), some (shP w rs n span), none, none, none, none, none, none] st) _
  unfold D_law_bent
  refine wp_seqK ?_
  intro K hK
  walk_at "go"
  refine draw_wp h (by decide) fun way s1 w0 w1 d1 => ?_
  refine wp_set (by rw [d1.nxt]) (lb_int _ _) ?_
  walk_at "go"
  refine wp_nx hK ?_
  clear hK
  refine wp_seqK ?_
  intro K hK
  walk_at "go"
  refine fresh_wp (h.dr d1) hn hw hr hs fun f s2 hf1 hf2 d2 => ?_
  refine wp_set (by rw [d2.nxt]) chP_lb ?_
  have d12 := d1.trans d2
  walk_at "go"
  refine wp_nx hK ?_
  clear hK
  have hp2 := h.dr d12
  refine wp_mb (wp_mb (wp_mb (wp_mb (wp_eq rfl (wp_mb (wp_eq rfl (wp_eq rfl ?_)))))))
  show wp (mkL true (R.map chP) s2) _
  refine wp_eq (mkM_eq (xs := R.map chP) (okL (by rw [List.length_map]; omega)) chs_lb) ?_
  have h0 : PL p s2.nxt st (s2.alloc (.lst (R.map chP))) (.lst (R.map chP)) := ⟨hp2.alloc, ((Drx.refl h).dr h h.lt d12).alloc, Sto.alloc_get chs_lbC, by rw [d12.nxt]; exact Nat.le_refl _, h.lt⟩
  generalize s2.alloc (.lst (R.map chP)) = s3 at h0 ⊢
  generalize s2.nxt = l at h0 ⊢
  clear hp2
  refine wp_mb (wp_eq rfl (wp_ret ?_))
  refine wp_seqK ?_
  intro K hK
  -- one is put in
  have put : ∀ (x : Chg) (i : Int) (k : Nat) (s : Sto), i = (k : Int) → k ≤ 1000000 → Gd w n z R x → PL p l st s (.lst (R.map chP)) → ∃ s', mInsert l [.int i, chP x] s = some (.non, s') ∧ ∃ M : List Chg, PL p l st s' (.lst (M.map chP)) ∧ (∀ y ∈ M, Gd w n z R y) ∧ M.length ≤ R.length + 1 := fun x i k s hi hk hx hP => by
    refine ⟨_, ins_chs hP.at' hi hk (by omega), _, hP.put chs_lbC, fun y hy => ?_, ?_⟩
    · rcases List.mem_append.mp hy with hy | hy
      · rcases List.mem_append.mp hy with hy | hy
        · exact hGR y (List.mem_of_mem_take hy)
        · rw [List.mem_singleton] at hy; rw [hy]; exact hx
      · exact hGR y (List.mem_of_mem_drop hy)
    · rw [List.length_append, List.length_append, List.length_take, List.length_drop, List.length_singleton]; omega
  have first : wp ((sSeq (sExpr (dMetL mInsert (dVar 6) (aCons (dCall f_law_draw false (aCons (dVar 0) (aCons (dBin (opAdd false) (dApp (bLen) (aCons (dVar 1) aNil)) (dCst (.int 1))) aNil))) (aCons (dTup (aCons (dBin opIx (dVar 5) (dCst (.int 0))) (aCons (dCall f_law_join false (aCons (dBin opIx (dVar 5) (dCst (.int 1))) (aCons (dVar 2) aNil))) (aCons (dBin opIx (dVar 5) (dCst (.int 2))) aNil)))) aNil)))) (sRet (dVar 6))) [some (.loc p), some (.lst (R.map chP)), some (tT z), some (shP w rs n span), some (.int way), some (chP f), some (.loc l), none, none, none] s3) fun fl s => wp (match fl with | .nx e => K e s | f => some (f, s)) fun f s => match f with | .rt v => wp (fin st.nxt v s) Q | .nx _ => wp (fin st.nxt .non s) Q | _ => False := by
    walk_at "go"
    refine wp_eq (loc_asL h0.at') ?_
    walk_at "go"
    rw [List.length_map]
    refine draw_wp h0.pool (by omega) fun i s4 i0 i1 d4 => ?_
    refine wp_set (by rw [d4.nxt]) (lb_int _ _) ?_
    have hP4 := h0.dr d4
    obtain ⟨k, rfl⟩ := Int.eq_ofNat_of_zero_le i0
    walk_at "go"
    refine wp_eq (join_eq (by rw [hf2, hz]) (by rw [hf2]; exact hn)) ?_
    refine wp_set rfl tT_lb ?_
    walk_at "go"
    obtain ⟨s5, e5, M, hM, hG, hl⟩ := put (f.1, lubL f.2.1 z, f.2.2) k k s4 rfl (by omega) ⟨hf1, by show (lubL f.2.1 z).length = n; rw [lubL_len (by rw [hf2, hz]), hf2], fun _ => lub_floor (by rw [hf2, hz])⟩ hP4
    refine wp_eq e5 ?_
    walk_at "go"
    refine wp_eq (hM.fin chs_lbC) ?_
    exact q' M (s5.restr st.nxt) hG hl hM.drx.2
  refine wp_sIf (x := decide (way = 0) || decide (R.length = 0)) (s1 := s3) (eq_of_wp ?_) ?_
  · walk_at "go"
    rw [eqv_int]
    by_cases e0 : way = 0
    · subst e0
      walk_at "go"
      first | exact ⟨rfl, rfl⟩ | exact wp_ret ⟨rfl, rfl⟩
    · have e0' : (way == 0) = false := by simp [e0]
      rw [e0', decide_eq_false e0]
      walk_at "go"
      rw [List.length_map, eqv_int]
      by_cases e1 : R.length = 0
      · rw [e1]
        walk_at "go"
        first | exact ⟨rfl, rfl⟩ | exact wp_ret ⟨rfl, rfl⟩
      · have e1' : ((R.length : Int) == 0) = false := by
          simp only [beq_eq_false_iff_ne]
          omega
        rw [e1', decide_eq_false e1]
        walk_at "go"
        first | exact ⟨rfl, rfl⟩ | exact wp_ret ⟨rfl, rfl⟩
  by_cases ew : (decide (way = 0) || decide (R.length = 0)) = true
  · rw [ew, if_pos rfl]
    exact first
  have ew : (decide (way = 0) || decide (R.length = 0)) = false := by simpa using ew
  rw [ew, if_neg (by decide)]
  have e1 : R.length ≠ 0 := by
    intro z
    rw [z, decide_eq_true (rfl : (0 : Nat) = 0), Bool.or_true] at ew
    cases ew
  clear first
  walk_at "go"
  refine wp_nx hK ?_
  clear hK
  refine wp_seqK ?_
  intro K hK
  walk_at "go"
  rw [List.length_map]
  refine draw_wp h0.pool (by omega) fun i s4 i0 i1 d4 => ?_
  refine wp_set (by rw [d4.nxt]) (lb_int _ _) ?_
  have hP4 := h0.dr d4
  clear h0 d4
  obtain ⟨k, rfl⟩ := Int.eq_ofNat_of_zero_le i0
  have hk : k < R.length := by omega
  walk_at "go"
  refine wp_nx hK ?_
  clear hK
  refine wp_seqK ?_
  intro K hK
  walk_at "go"
  refine wp_eq (chs_ix rfl hk) ?_
  have hone := hGR R[k] (List.getElem_mem hk)
  generalize R[k] = one at hone ⊢
  walk_at "go"
  refine wp_nx hK ?_
  clear hK
  refine wp_seqK ?_
  intro K hK
  refine wp_mono (R := fun fl s' => (∃ w9, fl = .nx [some (.loc p), some (.lst (R.map chP)), some (tT z), some (shP w rs n span), some (.int way), some (chP f), some (.loc l), some (.int (k : Int)), some (chP one), w9]) ∧ ∃ M : List Chg, PL p l st s' (.lst (M.map chP)) ∧ (∀ y ∈ M, Gd w n z R y) ∧ M.length ≤ R.length + 1) ?_ fun fl s5 h' => ?_
  · have setG : ∀ (x : Chg) (s : Sto), Gd w n z R x → PL p l st s (.lst (R.map chP)) → ∃ s', setL (.loc l) (.int (k : Int)) (chP x) s = some s' ∧ PL p l st s' (.lst ((R.set k x).map chP)) ∧ (∀ y ∈ R.set k x, Gd w n z R y) ∧ (R.set k x).length ≤ R.length + 1 := fun x s hx hP => by
      refine ⟨_, set_chs hP.at' rfl hk, hP.put chs_lbC, fun y hy => ?_, by rw [List.length_set]; omega⟩
      rcases List.mem_or_eq_of_mem_set hy with hy | hy
      · exact hGR y hy
      · rw [hy]; exact hx
    walk_at "go"
    rw [eqv_int]
    refine wp_if (fun c1 => ?_) (fun c1 => ?_)
    · walk_at "go"
      refine wp_eq (loc_asL hP4.at') ?_
      walk_at "go"
      refine wp_eq (pop_chs hP4.at' rfl hk (by omega)) ?_
      walk_at "go"
      refine ⟨⟨_, rfl⟩, R.eraseIdx k, hP4.put chs_lbC, fun y hy => hGR y (List.mem_of_mem_eraseIdx hy), ?_⟩
      have := List.length_eraseIdx_le R k
      omega
    walk_at "go"
    rw [eqv_int]
    refine wp_if (fun c2 => ?_) (fun c2 => ?_)
    · walk_at "go"
      rw [List.length_map, hz]
      refine draw_wp hP4.pool (by omega) fun j s5 j0 j1 d5 => ?_
      refine wp_set (by rw [d5.nxt]) (lb_int _ _) ?_
      have hP5 := hP4.dr d5
      obtain ⟨j, rfl⟩ := Int.eq_ofNat_of_zero_le j0
      have hj : j < one.2.1.length := by rw [hone.2.1]; omega
      walk_at "go"
      rw [cutT_to rfl (by omega)]
      refine wp_eq (tup_nat rfl hj) ?_
      walk_at "go"
      refine draw_wp hP5.pool (by decide) fun b s6 b0 b1 d6 => ?_
      refine wp_set (by rw [d6.nxt]) (lb_int _ _) ?_
      have hP6 := hP5.dr d6
      walk_at "go"
      rw [min_if]
      generalize hm : min 99 (one.2.1[j] + 1 + b) = m
      refine wp_eq (add_tT (a := one.2.1.take j) (b := [m]) (by rw [List.length_take, List.length_singleton]; omega)) ?_
      walk_at "go"
      rw [cutT_from (k := j + 1) (by omega) (by omega)]
      refine wp_eq (add_tT (a := one.2.1.take j ++ [m]) (b := one.2.1.drop (j + 1)) (by have := hone.2.1; rw [List.length_append, List.length_take, List.length_singleton, List.length_drop]; omega)) ?_
      walk_at "go"
      obtain ⟨s7, e7, h7⟩ := setG (one.1, one.2.1.take j ++ [m] ++ one.2.1.drop (j + 1), one.2.2) s6 ⟨hone.1, by
        have := hone.2.1
        show (one.2.1.take j ++ [m] ++ one.2.1.drop (j + 1)).length = n
        rw [List.length_append, List.length_append, List.length_take, List.length_singleton, List.length_drop]; omega, fun a => by
        have hle := hone.2.2 a
        have hjz : j < z.length := by omega
        refine raise_leq hle hjz ?_
        have h1 := leqB_get hle hjz hj
        have h2 := hz9 z[j] (List.getElem_mem hjz)
        rw [← hm]
        omega⟩ hP6
      refine wp_setL e7 ?_
      walk_at "go"
      exact ⟨⟨_, rfl⟩, _, h7⟩
    walk_at "go"
    rw [eqv_int]
    refine wp_if (fun c3 => ?_) (fun c3 => ?_)
    · walk_at "go"
      refine pick_wp hP4.pool (xs := R.map chP) (fun _ _ => rfl) (by rw [List.length_map]; omega) (fun x hx => by obtain ⟨y, _, rfl⟩ := get_chs hx; exact chP_lb) fun x s5 hx d5 => ?_
      obtain ⟨y, hy, rfl⟩ := get_chs hx
      refine wp_set (by rw [d5.nxt]) chP_lb ?_
      have hP5 := hP4.dr d5
      walk_at "go"
      obtain ⟨s7, e7, h7⟩ := setG (one.1, y.2.1, one.2.2) s5 ⟨hone.1, (hGR y hy).2.1, (hGR y hy).2.2⟩ hP5
      refine wp_setL e7 ?_
      walk_at "go"
      exact ⟨⟨_, rfl⟩, _, h7⟩
    walk_at "go"
    rw [eqv_int]
    refine wp_if (fun c4 => ?_) (fun c4 => ?_)
    · walk_at "go"
      obtain ⟨s5, e5, hP5, hG5, hl5⟩ := setG (one.1, one.2.1, one.2.2 - 7) s4 ⟨hone.1, hone.2.1, hone.2.2⟩ hP4
      refine wp_setL e5 ?_
      walk_at "go"
      refine wp_eq (loc_asL hP5.at') ?_
      walk_at "go"
      rw [List.length_map]
      refine draw_wp hP5.pool (by omega) fun j s6 j0 j1 d6 => ?_
      refine wp_set (by rw [d6.nxt]) (lb_int _ _) ?_
      have hP6 := hP5.dr d6
      obtain ⟨j, rfl⟩ := Int.eq_ofNat_of_zero_le j0
      walk_at "go"
      refine wp_eq (ins_chs (x := (one.1, one.2.1, 7)) hP6.at' rfl (by omega) (by rw [List.length_set]; omega)) ?_
      walk_at "go"
      refine ⟨⟨_, rfl⟩, _, hP6.put chs_lbC, fun y hy => ?_, ?_⟩
      · rcases List.mem_append.mp hy with hy | hy
        · rcases List.mem_append.mp hy with hy | hy
          · exact hG5 y (List.mem_of_mem_take hy)
          · rw [List.mem_singleton] at hy; rw [hy]; exact ⟨hone.1, hone.2.1, hone.2.2⟩
        · exact hG5 y (List.mem_of_mem_drop hy)
      · rw [List.length_append, List.length_append, List.length_take, List.length_drop, List.length_singleton, List.length_set]; omega
    · walk_at "go"
      refine draw_wp hP4.pool (by decide) fun j s5 j0 j1 d5 => ?_
      refine wp_set (by rw [d5.nxt]) (lb_int _ _) ?_
      have hP5 := hP4.dr d5
      walk_at "go"
      obtain ⟨a, ea, ha⟩ : ∃ a : List Int, opIx (.lst [tT f.1, tT one.1]) (.int j) s5 = some (tT a, s5) ∧ a.length = w := by
        have : j = 0 ∨ j = 1 := by omega
        rcases this with rfl | rfl
        · exact ⟨f.1, rfl, hf1⟩
        · exact ⟨one.1, rfl, hone.1⟩
      refine wp_eq ea ?_
      walk_at "go"
      refine pick_int hP5.pool (l := [0, 1, -2]) (by decide) fun c s6 hc d6 => ?_
      refine wp_set (by rw [d6.nxt]) (lb_int _ _) ?_
      have hP6 := hP5.dr d6
      walk_at "go"
      obtain ⟨s7, e7, h7⟩ := setG (a, one.2.1, one.2.2 + c) s6 ⟨ha, hone.2.1, hone.2.2⟩ hP6
      refine wp_setL e7 ?_
      walk_at "go"
      exact ⟨⟨_, rfl⟩, _, h7⟩
  · obtain ⟨⟨w9, rfl⟩, M, hM, hG, hl⟩ := h'
    refine wp_nx hK ?_
    walk_at "go"
    refine wp_eq (hM.fin chs_lbC) ?_
    exact q' M (s5.restr st.nxt) hG hl hM.drx.2
end DL

namespace DL
open PySem L2
local macro_rules | `(tactic| walk_at "go") => `(tactic| repeat (first | refine wp_mb ?_ | with_reducible refine wp_mul (by first | assumption | (exact okMul_iff.mpr (by omega))) ?_ | with_reducible refine wp_mod (by first | assumption | (exact okMod_iff.mpr (by omega))) ?_ | with_reducible refine wp_div (by first | assumption | (exact okDiv_iff.mpr (by omega))) ?_ | with_reducible refine wp_pow (by first | assumption | (exact okPow_iff.mpr (by decide))) ?_ | ((with_reducible refine wp_set ?_ ?_ ?_); (focus rfl); (focus first | exact tT_lb | exact lb_int _ _ | exact lb_bl _ _ | exact lb_non _ | assumption)) | refine wp_eq rfl ?_))
/-! W4 of k07: ordered and spoilt lists -/
def qP (x : Chg) : PV := .tup [tT x.2.1, tT x.1, .int x.2.2]
def qE : Enc Chg where
  p := qP
  d := fun x => .tuple [tD x.2.1, tD x.1, .int x.2.2]
  k := fun x => .tup [tK x.2.1, tK x.1, .num x.2.2]
  pd := fun k cs => by
    unfold qP
    rw [PV.toD, toDs, toDs, toDs, toDs, toD_tT, toD_tT, PV.toD]
    rfl
  pk := fun k => by
    unfold qP
    rw [NK, NKs, NKs, NKs, NKs, tK_eq, tK_eq, NK]; rfl
  tp := fun k => ⟨_, rfl⟩
  nt := fun k => by rw [noText, noTexts, noTexts, noTexts, noTexts, show noText (tK k.2.1) = true from rE.nt k.2.1, show noText (tK k.1) = true from rE.nt k.1, noText]; rfl
  dp := fun k => by
    rw [NestedKey.depth, NestedKey.depthAll, NestedKey.depthAll, NestedKey.depthAll, NestedKey.depthAll, NestedKey.depth]
    have h1 : (tK k.1).depth ≤ 1 := by unfold tK; rw [NestedKey.depth, kdepth_ints]; decide
    have h2 : (tK k.2.1).depth ≤ 1 := by unfold tK; rw [NestedKey.depth, kdepth_ints]; decide
    omega
  al := fun a b => by rw [PySem.W.alike, PySem.W.alikeAll, PySem.W.alikeAll, PySem.W.alikeAll, PySem.W.alikeAll, show PySem.W.alike (tD a.2.1) (tD b.2.1) = true from rE.al a.2.1 b.2.1, show PySem.W.alike (tD a.1) (tD b.1) = true from rE.al a.1 b.1, PySem.W.alike]; rfl
  dd := fun k => by
    rw [PyData.depth, PyData.depthAll, PyData.depthAll, PyData.depthAll, PyData.depthAll, PyData.depth]
    have h1 : (tD k.1).depth ≤ 1 := by unfold tD; rw [PyData.depth, depth_ints]; decide
    have h2 : (tD k.2.1).depth ≤ 1 := by unfold tD; rw [PyData.depth, depth_ints]; decide
    omega
  ki := fun a b h => by
    rw [PySem.W.keyToks, PySem.W.keyToks, PySem.W.keyToksAll, PySem.W.keyToksAll, PySem.W.keyToksAll, PySem.W.keyToksAll, PySem.W.keyToksAll, PySem.W.keyToksAll, PySem.W.keyToksAll, PySem.W.keyToksAll] at h
    unfold tD at h
    rw [PySem.W.keyToks, PySem.W.keyToks, PySem.W.keyToks, PySem.W.keyToks, PySem.W.keyToks, PySem.W.keyToks] at h
    have h := (List.cons.inj h).2
    obtain ⟨e1, h⟩ := toks_ints _ _ _ _ h
    have h := (List.cons.inj h).2
    obtain ⟨e2, h⟩ := toks_ints _ _ _ _ h
    have h := (List.cons.inj h).2
    have e3 : a.2.2 = b.2.2 := Sum.inl.inj (List.cons.inj h).1
    exact Prod.ext e2 (Prod.ext e1 e3)
  ni := fun a b h => by
    have h := NestedKey.tup.inj h
    have h1 := List.cons.inj h
    have h2 := List.cons.inj h1.2
    have h3 := List.cons.inj h2.2
    exact Prod.ext (rE.ni _ _ h2.1) (Prod.ext (rE.ni _ _ h1.1) (NestedKey.num.inj h3.1))
theorem ordered_eq {R : List Chg} {st : Sto} (hz : R.length ≤ 1000000) : f_law_ordered [.lst (R.map chP)] st = some (.lst ((qE.sort R).map chP), st) := by
  unfold f_law_ordered
  refine runF_eq rfl chs_lbV ?_
  show wp (D_law_ordered [some (.lst (R.map chP)), none, none] st) _
  unfold D_law_ordered
  walk_at "go"
  refine wp_eq (lc_map (its := ⟨R.map chP, none⟩) (l := R) (f := qE.p) rfl Its.ok_none fun a ha => ⟨_, rfl, eq_of_wp ?_⟩) ?_
  · walk_at "go"
    exact ⟨rfl, rfl⟩
  refine wp_eq (mkV_eq (okL (by rw [List.length_map]; exact hz))) ?_
  walk_at "go"
  rw [qE.sorted_eq (l := R) rfl (by rw [sizeLine_eq]; omega) fun a _ => ⟨_, _, rfl⟩]
  refine wp_eq (mkV_eq (okL (by rw [List.length_map, qE.sort_len]; exact hz))) ?_
  walk_at "go"
  refine wp_eq (lc_map (its := ⟨(qE.sort R).map qE.p, none⟩) (l := qE.sort R) (f := chP) rfl Its.ok_none fun a ha => ⟨_, rfl, eq_of_wp ?_⟩) ?_
  · walk_at "go"
    exact ⟨rfl, rfl⟩
  refine wp_eq (mkV_eq (okL (by rw [List.length_map, qE.sort_len]; exact hz))) ?_
  walk_at "go"
  exact ⟨rfl, rfl⟩
theorem CH.sort {w n : Nat} {R : List Chg} (h : CH w n R) : CH w n (qE.sort R) := fun x hx => h x (qE.sort_mem.mp hx)
/-! lists of lists -/
def rP (X : List Chg) : PV := .lst (X.map chP)
theorem rP_lbs {n : Nat} {LL : List (List Chg)} : lbs n (LL.map rP) = true := lbs_map (fun _ => chs_lbV) LL
theorem rP_lbC {n : Nat} {LL : List (List Chg)} : (Cell.lst (LL.map rP)).lb n = true := lbs_map (fun _ => chs_lbV) LL
theorem app_ll {l : Nat} {s : Sto} {LL : List (List Chg)} {X : List Chg} (h : s.cs l = some (.lst (LL.map rP))) (hz : LL.length ≤ 1000000) : mAppend l [.lst (X.map chP)] s = some (.non, s.set l (.lst ((LL ++ [X]).map rP))) := by
  rw [loc_append h (by rw [List.length_map, sizeLine_eq]; omega) chs_lbV, List.map_append]; rfl
def SP (w n m : Nat) (LL : List (List Chg)) : Prop := ∀ X ∈ LL, CH w n X ∧ X.length ≤ m
theorem SP.snoc {w n m : Nat} {LL : List (List Chg)} {X : List Chg} (h : SP w n m LL) (hX : CH w n X) (hl : X.length ≤ m) : SP w n m (LL ++ [X]) := fun Y hY => by
  rcases List.mem_append.mp hY with hY | hY
  · exact h Y hY
  · rw [List.mem_singleton] at hY; rw [hY]; exact ⟨hX, hl⟩
theorem CH.app {w n : Nat} {A B : List Chg} (hA : CH w n A) (hB : CH w n B) : CH w n (A ++ B) := fun x hx => by
  rcases List.mem_append.mp hx with hx | hx
  · exact hA x hx
  · exact hB x hx
theorem CH.take {w n k : Nat} {A : List Chg} (hA : CH w n A) : CH w n (A.take k) := fun x hx => hA x (List.mem_of_mem_take hx)
theorem CH.drop {w n k : Nat} {A : List Chg} (hA : CH w n A) : CH w n (A.drop k) := fun x hx => hA x (List.mem_of_mem_drop hx)
theorem CH.two {w n : Nat} {a b : Chg} (ha : a.1.length = w ∧ a.2.1.length = n) (hb : b.1.length = w ∧ b.2.1.length = n) : CH w n [a, b] := fun x hx => by
  simp only [List.mem_cons, List.not_mem_nil, or_false] at hx
  rcases hx with rfl | rfl
  · exact ha
  · exact hb
theorem to_eq {R : List Chg} {i : Int} {k : Nat} {st : Sto} (hi : i = (k : Int)) (h : k ≤ R.length) (hz : R.length ≤ 1000000) : mkL false (cutP (R.map chP) none (some i)) st = some (.lst ((R.take k).map chP), st) := by
  rw [cutC_to hi h]
  exact mkV_eq (okL (by rw [List.length_map, List.length_take]; omega))
theorem from_eq {R : List Chg} {i : Int} {k : Nat} {st : Sto} (hi : i = (k : Int)) (h : k ≤ R.length) (hz : R.length ≤ 1000000) : mkL false (cutP (R.map chP) (some i) none) st = some (.lst ((R.drop k).map chP), st) := by
  rw [cutC_from hi h]
  exact mkV_eq (okL (by rw [List.length_map, List.length_drop]; omega))
theorem spoilt_wp {p w n : Nat} {st : Sto} {R : List Chg} {fl : List Int} {rs span : Int} {Q : PV → Sto → Prop} (h : Pool p st) (hn1 : 1 ≤ n) (hn : n ≤ 1000) (hw : w ≤ 1000) (hR : CH w n R) (hRl : R.length ≤ 5000) (hf : fl.length = n) (hr : 0 < rs) (hs : 0 < span)
    (q : ∀ LL st', SP w n 20000 LL → Dr p st st' → Q (.loc st'.nxt) (st'.alloc (.lst (LL.map rP)))) : wp (f_law_spoilt [.loc p, .lst (R.map chP), tT fl, shP w rs n span] st) Q := by
  unfold f_law_spoilt
  refine wp_runF rfl ?_
  show wp (D_law_spoilt [some (.loc p), some (.lst (R.map chP)), some (tT fl), some (shP w rs n span), none, none, none, none, none, none] st) _
  unfold D_law_spoilt
  refine wp_seqK ?_
  intro K hK
  walk_at "go"
  refine fresh_wp h hn hw hr hs fun f s2 hf1 hf2 d2 => ?_
  refine wp_set (by rw [d2.nxt]) chP_lb ?_
  walk_at "go"
  refine wp_nx hK ?_
  clear hK
  have hp2 := h.dr d2
  refine wp_seqK ?_
  intro K hK
  walk_at "go"
  refine wp_eq (join_eq (by rw [hf2, hf]) (by rw [hf2]; exact hn)) ?_
  refine wp_set rfl tT_lb ?_
  walk_at "go"
  have hjl : (lubL f.2.1 fl).length = n := by rw [lubL_len (by rw [hf2, hf]), hf2]
  refine wp_eq (add_maps (f := chP) (a := R) (b := [(f.1, lubL f.2.1 fl, 0)]) (by rw [List.length_singleton]; omega)) ?_
  walk_at "go"
  have hO : CH w n (R ++ [(f.1, lubL f.2.1 fl, 0)]) := hR.snoc (x := (f.1, lubL f.2.1 fl, 0)) hf1 hjl
  have hOl : (R ++ [(f.1, lubL f.2.1 fl, 0)]).length ≤ 5001 := by rw [List.length_append, List.length_singleton]; omega
  generalize R ++ [(f.1, lubL f.2.1 fl, 0)] = O at hO hOl ⊢
  refine wp_eq (ordered_eq (by omega)) ?_
  refine wp_set rfl chs_lbV ?_
  walk_at "go"
  refine wp_eq (mkM_eq (xs := [R, [], qE.sort O].map rP) (okL (show 3 ≤ 1000000 by decide)) rP_lbs) ?_
  have h0 : PL p s2.nxt st (s2.alloc (.lst ([R, [], qE.sort O].map rP))) (.lst ([R, [], qE.sort O].map rP)) := ⟨hp2.alloc, ((Drx.refl h).dr h h.lt d2).alloc, Sto.alloc_get rP_lbC, by rw [d2.nxt]; exact Nat.le_refl _, h.lt⟩
  have hS0 : SP w n 20000 [R, [], qE.sort O] := fun X hX => by
    simp only [List.mem_cons, List.not_mem_nil, or_false] at hX
    rcases hX with rfl | rfl | rfl
    · exact ⟨hR, by omega⟩
    · exact ⟨.nil, by decide⟩
    · exact ⟨hO.sort, by rw [qE.sort_len]; omega⟩
  have hL0 : [R, [], qE.sort O].length ≤ 3 := Nat.le_refl 3
  generalize [R, [], qE.sort O] = LL at h0 hS0 hL0 ⊢
  generalize s2.alloc (.lst (LL.map rP)) = s3 at h0 ⊢
  generalize s2.nxt = l at h0 ⊢
  clear hp2 d2
  walk_at "go"
  refine wp_nx hK ?_
  clear hK
  refine wp_seqK ?_
  intro K hK
  walk_at "go"
  rw [List.length_map, hf]
  refine draw_wp h0.pool (by omega) fun i s4 i0 i1 d4 => ?_
  refine wp_set (by rw [d4.nxt]) (lb_int _ _) ?_
  have hP4 := h0.dr d4
  clear h0 d4
  obtain ⟨k, rfl⟩ := Int.eq_ofNat_of_zero_le i0
  have hk : k < fl.length := by omega
  walk_at "go"
  refine wp_nx hK ?_
  clear hK
  -- a time below the floor
  refine wp_seqK ?_
  intro K hK
  refine wp_mono (R := fun g s' => (∃ w7, g = .nx [some (.loc p), some (.lst (R.map chP)), some (tT fl), some (shP w rs n span), some (chP f), some (.loc l), some (.int (k : Int)), w7, none, none]) ∧ ∃ LL : List (List Chg), PL p l st s' (.lst (LL.map rP)) ∧ SP w n 20000 LL ∧ LL.length ≤ 4) ?_ fun g s5 h' => ?_
  · walk_at "go"
    refine wp_eq (tup_nat rfl hk) ?_
    walk_at "go"
    refine wp_if (fun c1 => ?_) (fun c1 => ?_)
    · have c1 : 0 < fl[k] := of_decide_eq_true c1
      walk_at "go"
      rw [cutT_to rfl (by omega)]
      refine wp_eq (tup_nat rfl hk) ?_
      walk_at "go"
      refine draw_wp hP4.pool c1 fun b s5 b0 b1 d5 => ?_
      refine wp_set (by rw [d5.nxt]) (lb_int _ _) ?_
      have hP5 := hP4.dr d5
      walk_at "go"
      refine wp_eq (add_tT (a := fl.take k) (b := [b]) (by rw [List.length_take, List.length_singleton]; omega)) ?_
      walk_at "go"
      rw [cutT_from (k := k + 1) (by omega) (by omega)]
      refine wp_eq (add_tT (a := fl.take k ++ [b]) (b := fl.drop (k + 1)) (by rw [List.length_append, List.length_take, List.length_singleton, List.length_drop]; omega)) ?_
      have hlow : (fl.take k ++ [b] ++ fl.drop (k + 1)).length = n := by rw [List.length_append, List.length_append, List.length_take, List.length_singleton, List.length_drop]; omega
      generalize fl.take k ++ [b] ++ fl.drop (k + 1) = low at hlow ⊢
      walk_at "go"
      refine wp_eq (loc_asL hP5.at') ?_
      walk_at "go"
      refine wp_eq (add_maps (f := chP) (a := R) (b := [(f.1, low, 5)]) (by rw [List.length_singleton]; omega)) ?_
      walk_at "go"
      refine wp_eq (ordered_eq (by rw [List.length_append, List.length_singleton]; omega)) ?_
      refine wp_set rfl chs_lbV ?_
      walk_at "go"
      refine wp_eq (app_ll hP5.at' (by omega)) ?_
      walk_at "go"
      exact ⟨⟨_, rfl⟩, _, hP5.put rP_lbC, hS0.snoc (hR.snoc (x := (f.1, low, 5)) hf1 hlow).sort (by rw [qE.sort_len, List.length_append, List.length_singleton]; omega), by rw [List.length_append, List.length_singleton]; omega⟩
    · walk_at "go"
      exact ⟨⟨_, rfl⟩, LL, hP4, hS0, by omega⟩
  obtain ⟨⟨w7, rfl⟩, LL2, hP5, hS2, hL2⟩ := h'
  clear hP4 hS0 hL0
  refine wp_nx hK ?_
  clear hK
  -- one parted, one left out
  refine wp_seqK ?_
  intro K hK
  refine wp_mono (R := fun g s' => (∃ w8 w9, g = .nx [some (.loc p), some (.lst (R.map chP)), some (tT fl), some (shP w rs n span), some (chP f), some (.loc l), some (.int (k : Int)), w7, w8, w9]) ∧ ∃ LL : List (List Chg), PL p l st s' (.lst (LL.map rP)) ∧ SP w n 20000 LL ∧ LL.length ≤ 6) ?_ fun g s6 h' => ?_
  · walk_at "go"
    rw [List.length_map]
    refine wp_if (fun c1 => ?_) (fun c1 => ?_)
    · have c1 : (0 : Int) < R.length := of_decide_eq_true c1
      walk_at "go"
      rw [List.length_map]
      refine draw_wp hP5.pool c1 fun j s6 j0 j1 d6 => ?_
      refine wp_set (by rw [d6.nxt]) (lb_int _ _) ?_
      have hP6 := hP5.dr d6
      clear hP5
      obtain ⟨j, rfl⟩ := Int.eq_ofNat_of_zero_le j0
      have hj : j < R.length := by omega
      walk_at "go"
      refine wp_eq (chs_ix rfl hj) ?_
      have hone := hR R[j] (List.getElem_mem hj)
      generalize R[j] = one at hone ⊢
      walk_at "go"
      refine wp_eq (loc_asL hP6.at') ?_
      walk_at "go"
      refine wp_eq (to_eq rfl (by omega) (by omega)) ?_
      walk_at "go"
      generalize 2 * one.2.2 = dbl
      refine wp_eq (add_maps (f := chP) (a := R.take j) (b := [(one.1, one.2.1, -one.2.2), (one.1, one.2.1, dbl)]) (by rw [List.length_take]; show _ + 2 ≤ _; omega)) ?_
      walk_at "go"
      refine wp_eq (from_eq (k := j + 1) (by omega) (by omega) (by omega)) ?_
      walk_at "go"
      have hl2 : (R.take j ++ [(one.1, one.2.1, -one.2.2), (one.1, one.2.1, dbl)]).length ≤ 5002 := by rw [List.length_append, List.length_take]; show _ + 2 ≤ _; omega
      refine wp_eq (add_maps (f := chP) (a := R.take j ++ [(one.1, one.2.1, -one.2.2), (one.1, one.2.1, dbl)]) (b := R.drop (j + 1)) (by rw [List.length_drop]; omega)) ?_
      walk_at "go"
      refine wp_eq (app_ll hP6.at' (by omega)) ?_
      have hS3 := hS2.snoc (X := R.take j ++ [(one.1, one.2.1, -one.2.2), (one.1, one.2.1, dbl)] ++ R.drop (j + 1)) ((hR.take.app (CH.two (a := (one.1, one.2.1, -one.2.2)) (b := (one.1, one.2.1, dbl)) hone hone)).app hR.drop) (by rw [List.length_append, List.length_drop]; omega)
      have hL3 : (LL2 ++ [R.take j ++ [(one.1, one.2.1, -one.2.2), (one.1, one.2.1, dbl)] ++ R.drop (j + 1)]).length ≤ 5 := by rw [List.length_append, List.length_singleton]; omega
      generalize LL2 ++ [R.take j ++ [(one.1, one.2.1, -one.2.2), (one.1, one.2.1, dbl)] ++ R.drop (j + 1)] = LL3 at hS3 hL3 ⊢
      have hP7 : PL p l st (s6.set l (.lst (LL3.map rP))) (.lst (LL3.map rP)) := hP6.put rP_lbC
      generalize s6.set l (.lst (LL3.map rP)) = s7 at hP7 ⊢
      clear hP6
      walk_at "go"
      refine wp_eq (loc_asL hP7.at') ?_
      walk_at "go"
      refine wp_eq (to_eq rfl (by omega) (by omega)) ?_
      walk_at "go"
      refine wp_eq (from_eq (k := j + 1) (by omega) (by omega) (by omega)) ?_
      walk_at "go"
      refine wp_eq (add_maps (f := chP) (a := R.take j) (b := R.drop (j + 1)) (by rw [List.length_take, List.length_drop]; omega)) ?_
      walk_at "go"
      refine wp_eq (app_ll hP7.at' (by omega)) ?_
      walk_at "go"
      exact ⟨⟨_, _, rfl⟩, _, hP7.put rP_lbC, hS3.snoc (hR.take.app hR.drop) (by rw [List.length_append, List.length_take, List.length_drop]; omega), by rw [List.length_append, List.length_singleton]; omega⟩
    · walk_at "go"
      exact ⟨⟨_, _, rfl⟩, LL2, hP5, hS2, by omega⟩
  obtain ⟨⟨w8, w9, rfl⟩, LL3, hP6, hS3, hL3⟩ := h'
  clear hP5 hS2 hL2
  refine wp_nx hK ?_
  clear hK
  -- two exchanged
  refine wp_seqK ?_
  intro K hK
  refine wp_mono (R := fun g s' => (∃ w8, g = .nx [some (.loc p), some (.lst (R.map chP)), some (tT fl), some (shP w rs n span), some (chP f), some (.loc l), some (.int (k : Int)), w7, w8, w9]) ∧ ∃ LL : List (List Chg), PL p l st s' (.lst (LL.map rP)) ∧ SP w n 20000 LL) ?_ fun g s7 h' => ?_
  · walk_at "go"
    rw [List.length_map]
    refine wp_if (fun c1 => ?_) (fun c1 => ?_)
    · have c1 : (1 : Int) < R.length := of_decide_eq_true c1
      walk_at "go"
      rw [List.length_map]
      refine draw_wp hP6.pool (by omega) fun j s7 j0 j1 d7 => ?_
      refine wp_set (by rw [d7.nxt]) (lb_int _ _) ?_
      have hP7 := hP6.dr d7
      clear hP6
      obtain ⟨j, rfl⟩ := Int.eq_ofNat_of_zero_le j0
      have hj : j + 1 < R.length := by omega
      walk_at "go"
      refine wp_eq (loc_asL hP7.at') ?_
      walk_at "go"
      refine wp_eq (to_eq rfl (by omega) (by omega)) ?_
      walk_at "go"
      refine wp_eq (chs_ix (k := j + 1) (by omega) hj) ?_
      walk_at "go"
      refine wp_eq (chs_ix (k := j) rfl (by omega)) ?_
      walk_at "go"
      have ha := hR R[j + 1] (List.getElem_mem hj)
      have hb := hR R[j] (List.getElem_mem (by omega))
      generalize R[j + 1] = a at ha ⊢
      generalize R[j] = b at hb ⊢
      refine wp_eq (add_maps (f := chP) (a := R.take j) (b := [a, b]) (by rw [List.length_take]; show _ + 2 ≤ _; omega)) ?_
      walk_at "go"
      refine wp_eq (from_eq (k := j + 2) (by omega) (by omega) (by omega)) ?_
      walk_at "go"
      have hl2 : (R.take j ++ [a, b]).length ≤ 5002 := by rw [List.length_append, List.length_take]; show _ + 2 ≤ _; omega
      refine wp_eq (add_maps (f := chP) (a := R.take j ++ [a, b]) (b := R.drop (j + 2)) (by rw [List.length_drop]; omega)) ?_
      walk_at "go"
      refine wp_eq (app_ll hP7.at' (by omega)) ?_
      walk_at "go"
      exact ⟨⟨_, rfl⟩, _, hP7.put rP_lbC, hS3.snoc ((hR.take.app (CH.two ha hb)).app hR.drop) (by rw [List.length_append, List.length_drop]; omega)⟩
    · walk_at "go"
      exact ⟨⟨_, rfl⟩, LL3, hP6, hS3⟩
  obtain ⟨⟨w8', rfl⟩, LL4, hP7, hS4⟩ := h'
  refine wp_nx hK ?_
  walk_at "go"
  refine wp_eq (hP7.fin rP_lbC) ?_
  exact q LL4 (s7.restr st.nxt) hS4 hP7.drx.2
end DL

namespace DL
open PySem L2
local macro_rules | `(tactic| walk_at "go") => `(tactic| repeat (first | refine wp_mb ?_ | with_reducible refine wp_mul (by first | assumption | (exact okMul_iff.mpr (by omega))) ?_ | with_reducible refine wp_mod (by first | assumption | (exact okMod_iff.mpr (by omega))) ?_ | with_reducible refine wp_div (by first | assumption | (exact okDiv_iff.mpr (by omega))) ?_ | with_reducible refine wp_pow (by first | assumption | (exact okPow_iff.mpr (by decide))) ?_ | ((with_reducible refine wp_set ?_ ?_ ?_); (focus rfl); (focus first | exact tT_lb | exact lb_int _ _ | exact lb_bl _ _ | exact lb_non _ | assumption)) | refine wp_eq rfl ?_))
/-! W5 of k07: small lists -/
theorem tot_nodup : ∀ {R : List Chg} {x : Chg}, (R.map keyOf).Nodup → x ∈ R → tot R (keyOf x) = x.2.2
  | [], _, _, h => by cases h
  | y :: R, x, nd, h => by
    rw [List.map_cons, List.nodup_cons] at nd
    rw [tot_cons]
    rcases List.mem_cons.mp h with rfl | h
    · rw [if_pos rfl, tot_zero nd.1, Int.add_zero]
    · rw [if_neg (fun (e : keyOf y = keyOf x) => nd.1 (by rw [e]; exact List.mem_map_of_mem h)), tot_nodup nd.2 h, Int.zero_add]
def ltK (a b : Key) : Bool := PySem.W.dataLt (kE.d a) (kE.d b)
theorem ltK_le (a b : Key) : ltK a b = !kE.le b a := by
  unfold ltK Enc.le
  rw [Bool.not_not]
theorem ltK_of {a b : Key} (h : kE.le a b = true) (n : a ≠ b) : ltK a b = true := by
  rw [ltK_le]
  cases e : kE.le b a with
  | false => rfl
  | true => exact absurd (kE.an h e) n
theorem le_of_ltK {a b : Key} (h : ltK a b = true) : kE.le a b = true := by
  rw [ltK_le, Bool.not_eq_true'] at h
  have := kE.tot a b
  rw [h, Bool.or_false] at this
  exact this
theorem ne_of_ltK {a b : Key} (h : ltK a b = true) : a ≠ b := by
  intro e
  subst e
  rw [ltK_le, Bool.not_eq_true'] at h
  have := kE.tot a a
  rw [h] at this
  cases this
theorem ltK_tr {a b c : Key} (h1 : ltK a b = true) (h2 : ltK b c = true) : ltK a c = true := by
  refine ltK_of (kE.tr a b c (le_of_ltK h1) (le_of_ltK h2)) fun e => ?_
  subst e
  rw [ltK_le, Bool.not_eq_true'] at h2
  rw [le_of_ltK h1] at h2
  cases h2
theorem canon_keysrt (R : List Chg) : Srt kE ((canon R).map keyOf) := by
  have e : (canon R).map keyOf = (kE.sort (uq (R.map keyOf))).filter fun k => decide (tot R k ≠ 0) := by
    unfold canon canonK
    rw [List.map_map]
    have : (keyOf ∘ mkC (tot R)) = id := by funext k; rfl
    rw [this, List.map_id]
  rw [e]
  exact (Srt.of (uq_nodup _)).filter _
theorem canon_self {R : List Chg} (hs : Srt kE (R.map keyOf)) (hc : ∀ x ∈ R, x.2.2 ≠ 0) : canon R = R := by
  have h1 := canon_of (S := R.map keyOf) (f := tot R) (L := R) hs (fun _ => rfl) fun k hk => by
    apply Classical.byContradiction
    intro z
    exact hk (tot_zero z)
  rw [← h1]
  unfold canonK
  rw [List.filter_eq_self.mpr fun k hk => by
    obtain ⟨x, hx, rfl⟩ := List.mem_map.mp hk
    rw [tot_nodup hs.2 hx]
    simpa using hc x hx]
  rw [List.map_map]
  have : ∀ x ∈ R, (mkC (tot R) ∘ keyOf) x = id x := fun x hx => by
    show (x.1, x.2.1, tot R (keyOf x)) = x
    rw [tot_nodup hs.2 hx]
  rw [List.map_congr_left this, List.map_id]
def at0 (R : List Chg) (k : Nat) : Chg := R.getD k ([], [], 0)
theorem at0_get {R : List Chg} {k : Nat} (h : k < R.length) : at0 R k = R[k] := by
  unfold at0
  rw [List.getD_eq_getElem?_getD, List.getElem?_eq_getElem h]; rfl
def okAt (fl : List Int) (R : List Chg) (k : Nat) : Bool := (decide ((at0 R k).2.2 ≠ 0) && leqB fl (at0 R k).2.1) && (decide (k = 0) || ltK (keyOf (at0 R (k - 1))) (keyOf (at0 R k)))
theorem small_iff (fl : List Int) (R : List Chg) : (List.range R.length).all (okAt fl R) = ((R.all fun x => leqB fl x.2.1) && decide (R = canon R)) := by
  rw [Bool.eq_iff_iff, Bool.and_eq_true, List.all_eq_true, List.all_eq_true, decide_eq_true_iff]
  constructor
  · intro h
    have h' : ∀ k, k < R.length → (at0 R k).2.2 ≠ 0 ∧ leqB fl (at0 R k).2.1 = true ∧ (k = 0 ∨ ltK (keyOf (at0 R (k - 1))) (keyOf (at0 R k)) = true) := fun k hk => by
      have := h k (List.mem_range.mpr hk)
      unfold okAt at this
      rw [Bool.and_eq_true, Bool.and_eq_true, Bool.or_eq_true, decide_eq_true_iff, decide_eq_true_iff] at this
      exact ⟨this.1.1, this.1.2, this.2⟩
    have hx : ∀ x ∈ R, x.2.2 ≠ 0 ∧ leqB fl x.2.1 = true := fun x hx => by
      obtain ⟨k, hk, rfl⟩ := List.mem_iff_getElem.mp hx
      have := h' k hk
      rw [at0_get hk] at this
      exact ⟨this.1, this.2.1⟩
    have hlt : ∀ (d i : Nat), i + d + 1 < R.length → ltK (keyOf (at0 R i)) (keyOf (at0 R (i + d + 1))) = true := by
      intro d
      induction d with
      | zero =>
        intro i hi
        have := (h' (i + 0 + 1) hi).2.2
        rcases this with e | e
        · omega
        · exact e
      | succ d ih =>
        intro i hi
        have h1 := ih i (by omega)
        have := (h' (i + (d + 1) + 1) hi).2.2
        rcases this with e | e
        · omega
        · exact ltK_tr h1 e
    have hp : ∀ (i j : Nat) (hi : i < (R.map keyOf).length) (hj : j < (R.map keyOf).length), i < j → ltK (R.map keyOf)[i] (R.map keyOf)[j] = true := fun i j hi hj hij => by
      rw [List.length_map] at hi hj
      have := hlt (j - i - 1) i (by omega)
      have e : i + (j - i - 1) + 1 = j := by omega
      rw [e, at0_get hi, at0_get hj] at this
      rw [List.getElem_map, List.getElem_map]
      exact this
    refine ⟨fun x z => (hx x z).2, (canon_self ⟨?_, ?_⟩ fun x z => (hx x z).1).symm⟩
    · exact List.pairwise_iff_getElem.mpr fun i j hi hj hij => le_of_ltK (hp i j hi hj hij)
    · rw [List.nodup_iff_pairwise_ne]
      exact List.pairwise_iff_getElem.mpr fun i j hi hj hij => ne_of_ltK (hp i j hi hj hij)
  · rintro ⟨h1, h2⟩ k hk
    have hk := List.mem_range.mp hk
    have hs := canon_keysrt R
    rw [← h2] at hs
    have hm : R[k] ∈ R := List.getElem_mem hk
    have hc : R[k].2.2 ≠ 0 := by
      have hm2 : R[k] ∈ canon R := by rw [← h2]; exact hm
      exact (canon_mem.mp hm2).2
    unfold okAt
    rw [at0_get hk, decide_eq_true hc, h1 _ hm]
    by_cases e : k = 0
    · rw [decide_eq_true e]; rfl
    · have hk1 : k - 1 < R.length := by omega
      rw [at0_get hk1]
      have hl := List.pairwise_iff_getElem.mp hs.1 (k - 1) k (by rw [List.length_map]; exact hk1) (by rw [List.length_map]; exact hk) (by omega)
      have hn := List.pairwise_iff_getElem.mp (List.nodup_iff_pairwise_ne.mp hs.2) (k - 1) k (by rw [List.length_map]; exact hk1) (by rw [List.length_map]; exact hk) (by omega)
      rw [List.getElem_map, List.getElem_map] at hl hn
      rw [ltK_of hl hn, Bool.or_true]; rfl
theorem is_small_eq {n : Nat} {R : List Chg} {fl : List Int} {st : Sto} (hn : n ≤ 1000) (hz : R.length ≤ 1000000) (hf : fl.length = n) : f_is_small [.lst (R.map chP), tT fl] st = some (.bl ((R.all fun x => leqB fl x.2.1) && decide (R = canon R)), st) := by
  unfold f_is_small
  refine runF_eq rfl (lb_bl _ _) ?_
  show wp (D_is_small [some (.lst (R.map chP)), some (tT fl), none, none, none] st) _
  unfold D_is_small
  walk_at "go"
  refine forGo_wp (its := ⟨R.map chP, none⟩) (fun k env s => s = st ∧ (∃ u2 u3 u4, env = [some (.lst (R.map chP)), some (tT fl), u2, u3, u4]) ∧ ∀ x ∈ R.take k, leqB fl x.2.1 = true) _ (fun k x env s hx hI => ?_) (fun env s hI => ?_) ⟨rfl, ⟨_, _, _, rfl⟩, fun x z => (by cases z)⟩
  · obtain ⟨rfl, ⟨u2, u3, u4, rfl⟩, hall⟩ := hI
    obtain ⟨y, hy, hm, rfl⟩ := get_map hx
    refine ⟨Its.ok_none, wp_eq rfl ?_⟩
    walk_at "go"
    refine wp_eq (leq_eq (by rw [hf]; exact hn)) ?_
    walk_at "go"
    cases e : leqB fl y.2.1 with
    | true =>
      walk_at "go"
      refine ⟨rfl, ⟨_, _, _, rfl⟩, fun x hx => ?_⟩
      rw [take_step hy] at hx
      rcases List.mem_append.mp hx with hx | hx
      · exact hall x hx
      · rw [List.mem_singleton] at hx; rw [hx]; exact e
    | false =>
      walk_at "go"
      have : (R.all fun x => leqB fl x.2.1) = false := by
        rw [List.all_eq_false]
        exact ⟨y, hm, by rw [e]; decide⟩
      rw [this, Bool.false_and]
      exact ⟨rfl, rfl⟩
  · obtain ⟨rfl, ⟨u2, u3, u4, rfl⟩, hall⟩ := hI
    rw [show (Its.mk (R.map chP) none).items.length = R.length from List.length_map _, List.take_length] at hall
    refine ⟨Its.ok_none, ?_⟩
    walk_at "go"
    refine wp_eq (bList_v (v := .lst (R.map chP)) rfl (by rw [List.length_map]; exact hz)) ?_
    walk_at "go"
    refine wp_eq (tidy_eq hz rfl) ?_
    refine wp_set rfl chs_lbV ?_
    walk_at "go"
    refine wp_eq (chE.list.cmpEq (a := R) (b := canon R) rfl rfl (by decide)) ?_
    walk_at "go"
    rw [List.all_eq_true.mpr hall, Bool.true_and, Bool.bne_false]
    exact ⟨rfl, rfl⟩
theorem cmpLt_key {a b : Key} {st : Sto} : cmpLt (kP a) (kP b) st = some (.bl (ltK a b), st) := by
  show (match (kP a).toD st.cs, (kP b).toD st.cs with | some d, some e => if PySem.W.alike d e && decide (min d.depth e.depth ≤ 60) then some (PV.bl (PySem.W.dataLt d e), st) else none | _, _ => none) = _
  rw [show (kP a).toD st.cs = some (kE.d a) from kE.pd a st.cs, show (kP b).toD st.cs = some (kE.d b) from kE.pd b st.cs]
  show (if PySem.W.alike (kE.d a) (kE.d b) && decide (min (kE.d a).depth (kE.d b).depth ≤ 60) then some (PV.bl (PySem.W.dataLt (kE.d a) (kE.d b)), st) else none) = _
  have := kE.dd a
  rw [kE.al, decide_eq_true (show min (kE.d a).depth (kE.d b).depth ≤ 60 by omega)]
  rfl
theorem small_eq {n : Nat} {R : List Chg} {fl : List Int} {st : Sto} (hn : n ≤ 1000) (hz : R.length ≤ 1000000) (hR : ∀ x ∈ R, x.2.1.length = n) (hf : fl.length = n) : f_law_small [.lst (R.map chP), tT fl] st = some (.bl ((List.range R.length).all (okAt fl R)), st) := by
  unfold f_law_small
  refine runF_eq rfl (lb_bl _ _) ?_
  show wp (D_law_small [some (.lst (R.map chP)), some (tT fl), none] st) _
  unfold D_law_small
  walk_at "go"
  rw [List.length_map]
  refine wp_pos (okR hz) ?_
  walk_at "go"
  refine forGo_wp (its := ⟨rng 0 (R.length : Int), none⟩) (fun k env s => s = st ∧ (∃ u2, env = [some (.lst (R.map chP)), some (tT fl), u2]) ∧ ∀ j, j < k → okAt fl R j = true) _ (fun k x env s hx hI => ?_) (fun env s hI => ?_) ⟨rfl, ⟨_, rfl⟩, fun j z => by omega⟩
  · obtain ⟨rfl, ⟨u2, rfl⟩, hall⟩ := hI
    obtain ⟨hk, rfl⟩ := rng_get hx
    have bad : okAt fl R k = false → (List.range R.length).all (okAt fl R) = false := fun h => by
      rw [List.all_eq_false]
      exact ⟨k, List.mem_range.mpr hk, by rw [h]; decide⟩
    have hgk := at0_get hk
    have hlen := hR R[k] (List.getElem_mem hk)
    have hix : (0 : Int) + (k : Int) = (k : Int) := Int.zero_add _
    refine ⟨Its.ok_none, wp_eq rfl ?_⟩
    refine wp_seqK ?_
    intro K hK
    refine wp_sIf (x := decide (R[k].2.2 = 0) || !leqB fl R[k].2.1) (s1 := s) (eq_of_wp ?_) ?_
    · walk_at "go"
      refine wp_eq (chs_ix hix hk) ?_
      walk_at "go"
      rw [eqv_int]
      by_cases e : R[k].2.2 = 0
      · rw [e]
        walk_at "go"
        first | exact ⟨rfl, rfl⟩ | exact wp_ret ⟨rfl, rfl⟩
      · have e' : (R[k].2.2 == 0) = false := by simp [e]
        rw [e', decide_eq_false e]
        walk_at "go"
        refine wp_eq (chs_ix hix hk) ?_
        walk_at "go"
        refine wp_eq (law_leq_eq (by rw [hf, hlen]) (by rw [hf]; exact hn)) ?_
        walk_at "go"
        first | exact ⟨by rw [Bool.false_or], rfl⟩ | exact wp_ret ⟨by rw [Bool.false_or], rfl⟩
    by_cases c1 : (decide (R[k].2.2 = 0) || !leqB fl R[k].2.1) = true
    · rw [c1, if_pos rfl]
      walk_at "go"
      rw [bad (by
        unfold okAt
        rw [hgk]
        rw [Bool.or_eq_true, decide_eq_true_iff, Bool.not_eq_true'] at c1
        rcases c1 with c1 | c1
        · rw [decide_eq_false (fun z => z c1)]; rfl
        · rw [c1, Bool.and_false]; rfl)]
      exact ⟨rfl, rfl⟩
    have c1 : (decide (R[k].2.2 = 0) || !leqB fl R[k].2.1) = false := by simpa using c1
    rw [c1, if_neg (by decide)]
    rw [Bool.or_eq_false_iff, decide_eq_false_iff_not, Bool.not_eq_false'] at c1
    walk_at "go"
    refine wp_nx hK ?_
    clear hK
    refine wp_sIf (x := decide (0 < k) && !ltK (keyOf (at0 R (k - 1))) (keyOf R[k])) (s1 := s) (eq_of_wp ?_) ?_
    · walk_at "go"
      by_cases e : 0 < k
      · have e' : decide ((0 : Int) < 0 + (k : Int)) = true := decide_eq_true (by omega)
        have hk1 : k - 1 < R.length := by omega
        have hix1 : (0 : Int) + (k : Int) - 1 = ((k - 1 : Nat) : Int) := by omega
        refine wp_pos e' ?_
        walk_at "go"
        refine wp_eq (chs_ix hix1 hk1) ?_
        walk_at "go"
        refine wp_eq (chs_ix hix1 hk1) ?_
        walk_at "go"
        refine wp_eq (chs_ix hix hk) ?_
        walk_at "go"
        refine wp_eq (chs_ix hix hk) ?_
        walk_at "go"
        refine wp_eq (cmpLt_key (a := keyOf R[k - 1]) (b := keyOf R[k])) ?_
        walk_at "go"
        rw [at0_get hk1, decide_eq_true e, Bool.true_and]
        first | exact ⟨rfl, rfl⟩ | exact wp_ret ⟨rfl, rfl⟩
      · have e' : ¬ decide ((0 : Int) < 0 + (k : Int)) = true := by
          intro z
          have := of_decide_eq_true z
          omega
        refine wp_neg e' ?_
        walk_at "go"
        rw [decide_eq_false e, Bool.false_and]
        first | exact ⟨rfl, rfl⟩ | exact wp_ret ⟨rfl, rfl⟩
    by_cases c2 : (decide (0 < k) && !ltK (keyOf (at0 R (k - 1))) (keyOf R[k])) = true
    · rw [c2, if_pos rfl]
      walk_at "go"
      rw [bad (by
        unfold okAt
        rw [hgk]
        rw [Bool.and_eq_true, decide_eq_true_iff, Bool.not_eq_true'] at c2
        rw [c2.2, decide_eq_false (show ¬ k = 0 by omega), Bool.or_self, Bool.and_false])]
      exact ⟨rfl, rfl⟩
    have c2 : (decide (0 < k) && !ltK (keyOf (at0 R (k - 1))) (keyOf R[k])) = false := by simpa using c2
    rw [c2, if_neg (by decide)]
    walk_at "go"
    refine ⟨rfl, ⟨_, rfl⟩, fun j hj => ?_⟩
    by_cases e : j = k
    · subst e
      unfold okAt
      rw [hgk, decide_eq_true c1.1, c1.2]
      by_cases e0 : j = 0
      · rw [decide_eq_true e0]; rfl
      · rw [decide_eq_true (show 0 < j by omega), Bool.true_and, Bool.not_eq_false'] at c2
        rw [c2, Bool.or_true]; rfl
    · exact hall j (by omega)
  · obtain ⟨rfl, ⟨u2, rfl⟩, hall⟩ := hI
    rw [rng_len] at hall
    refine ⟨Its.ok_none, ?_⟩
    walk_at "go"
    rw [List.all_eq_true.mpr fun j hj => hall j (List.mem_range.mp hj)]
    exact ⟨rfl, rfl⟩
end DL

namespace DL
open PySem L2
local macro_rules | `(tactic| walk_at "go") => `(tactic| repeat (first | refine wp_mb ?_ | with_reducible refine wp_mul (by first | assumption | (exact okMul_iff.mpr (by omega))) ?_ | with_reducible refine wp_mod (by first | assumption | (exact okMod_iff.mpr (by omega))) ?_ | with_reducible refine wp_div (by first | assumption | (exact okDiv_iff.mpr (by omega))) ?_ | with_reducible refine wp_pow (by first | assumption | (exact okPow_iff.mpr (by decide))) ?_ | ((with_reducible refine wp_set ?_ ?_ ?_); (focus rfl); (focus first | exact tT_lb | exact lb_int _ _ | exact lb_bl _ _ | exact lb_non _ | assumption)) | refine wp_eq rfl ?_))
local macro_rules | `(tactic| walk_at "st") => `(tactic| ((first | (refine wp_seqK ?_; intro K hK) | skip); walk_at "go"))
local macro_rules | `(tactic| walk_at "nx") => `(tactic| ((try dsimp only [List.set_cons_zero, List.set_cons_succ]); refine wp_nx (by assumption) ?_; walk_at "st"))
/-! W6 of k07: the law -/
theorem lub_above : ∀ {t fl : List Int}, leqB fl t = true → lubL t fl = t
  | [], [], _ => rfl
  | [], _ :: _, h => by cases h
  | _ :: _, [], h => by cases h
  | x :: t, y :: fl, h => by
    rw [leqB, Bool.and_eq_true, decide_eq_true_iff] at h
    show max x y :: lubL t fl = x :: t
    rw [lub_above h.2, Int.max_eq_left h.1]
theorem mv_above {fl : List Int} {X : List Chg} (h : ∀ x ∈ X, leqB fl x.2.1 = true) : mv fl X = X := by
  unfold mv
  have : ∀ x ∈ X, (fun x : Chg => ((x.1, lubL x.2.1 fl, x.2.2) : Chg)) x = id x := fun x hx => by
    show (x.1, lubL x.2.1 fl, x.2.2) = x
    rw [lub_above (h x hx)]
  rw [List.map_congr_left this, List.map_id]
theorem canon_canon (L : List Chg) : canon (canon L) = canon L := canon_eq fun k => wt_canon _ L
theorem mv_CH {w n : Nat} {fl : List Int} {L : List Chg} (h : CH w n L) (hf : fl.length = n) : CH w n (mv fl L) := fun x hx => by
  obtain ⟨y, hy, rfl⟩ := List.mem_map.mp hx
  exact ⟨(h y hy).1, by show (lubL y.2.1 fl).length = n; rw [lubL_len (by rw [(h y hy).2, hf]), (h y hy).2]⟩
theorem due_above {n : Nat} {fl : List Int} {L : List Chg} (h : ∀ x ∈ L, x.2.1.length = n) (hf : fl.length = n) : ∀ x ∈ canon (mv fl L), leqB fl x.2.1 = true := fun x hx => by
  obtain ⟨y, hy, e⟩ := canon_keys hx
  obtain ⟨z, hz, rfl⟩ := List.mem_map.mp hy
  have e1 : lubL z.2.1 fl = x.2.1 := congrArg (fun k : Key => k.1) e
  rw [← e1]
  exact lub_floor (by rw [h z hz, hf])
theorem get_lists {LL : List (List Chg)} {k : Nat} {x : PV} (h : (LL.map rP)[k]? = some x) : ∃ X ∈ LL, x = .lst (X.map chP) := by
  obtain ⟨X, _, hm, rfl⟩ := get_map h
  exact ⟨X, hm, rfl⟩
theorem law_true : ∀ ns : List Int, ns.length ≤ 63 → ∃ st, f_law [.ro (ns.map .int)] st0 = some (.bl true, st) := by
  intro ns hns
  refine (fun (z : wp (f_law [.ro (ns.map .int)] st0) fun v _ => v = .bl true) => ?_) ?_
  · obtain ⟨v, s, e, rfl⟩ := z
    exact ⟨s, e⟩
  unfold f_law
  refine wp_runF rfl ?_
  show wp (D_law [some (.ro (ns.map .int)), none, none, none, none, none, none, none, none, none, none, none, none, none, none, none] st0) _
  unfold D_law
  refine wp_seqK ?_
  intro K hK
  walk_at "go"
  refine pool_wp hns fun P hP2 => ?_
  have hP : Pool st0.nxt (st0.alloc (.lst (P.map .int))) := pool_new hP2
  generalize st0.alloc (.lst (P.map .int)) = s at hP ⊢
  walk_at "go"
  -- span
  walk_at "nx"
  refine pick_int hP (l := [3, 2, 4, 100]) (by decide) fun span s1 hspan d => ?_
  have hspan : 0 < span ∧ span ≤ 100 := by
    simp only [List.mem_cons, List.not_mem_nil, or_false] at hspan
    omega
  refine wp_set (by rw [d.nxt]) (lb_int _ _) ?_
  replace hP := hP.dr d
  clear d
  walk_at "go"
  -- shape
  walk_at "nx"
  refine draw_wp hP (by decide) fun r s2 r0 r1 d => ?_
  refine wp_set (by rw [d.nxt]) (lb_int _ _) ?_
  replace hP := hP.dr d
  clear d
  obtain ⟨w0, rfl⟩ := Int.eq_ofNat_of_zero_le r0
  walk_at "go"
  refine pick_int hP (l := [2, 3, 100]) (by decide) fun rs s3 hrs d => ?_
  have hrs : 0 < rs := by
    simp only [List.mem_cons, List.not_mem_nil, or_false] at hrs
    omega
  refine wp_set (by rw [d.nxt]) (lb_int _ _) ?_
  replace hP := hP.dr d
  clear d
  walk_at "go"
  refine pick_int hP (l := [2, 1, 3, 4, 2, 3]) (by decide) fun n0 s4 hn0 d => ?_
  obtain ⟨n, rfl, hn1, hn4⟩ : ∃ n : Nat, n0 = n ∧ 1 ≤ n ∧ n ≤ 4 := by
    simp only [List.mem_cons, List.not_mem_nil, or_false] at hn0
    exact ⟨n0.toNat, by omega, by omega, by omega⟩
  refine wp_set (by rw [d.nxt]) (lb_int _ _) ?_
  replace hP := hP.dr d
  clear d hn0
  walk_at "go"
  obtain ⟨w, hw, hw1, hw4⟩ : ∃ w : Nat, (1 : Int) + (w0 : Int) = (w : Int) ∧ 1 ≤ w ∧ w ≤ 4 := ⟨w0 + 1, by omega, by omega, by omega⟩
  rw [hw]
  clear r0 r1 hw
  -- many
  walk_at "nx"
  refine draw_wp hP (by decide) fun m0 s7 m00 m01 d => ?_
  refine wp_set (by rw [d.nxt]) (lb_int _ _) ?_
  replace hP := hP.dr d
  clear d
  walk_at "go"
  refine wp_nx (by assumption) ?_
  refine wp_seqK ?_
  intro K hK
  try dsimp only [List.set_cons_zero, List.set_cons_succ]
  refine wp_mono (R := fun fl s' => (∃ many : Nat, fl = .nx [some (.ro (ns.map .int)), some (.loc st0.nxt), some (.int span), some (shP w rs n span), some (.int many), none, none, none, none, none, none, none, none, none, none, none] ∧ many ≤ 30) ∧ Pool st0.nxt s') ?_ fun fl s8 h' => ?_
  · walk_at "go"
    refine draw_wp hP (by decide) fun r s8 r0 r1 d => ?_
    refine wp_set (by rw [d.nxt]) (lb_int _ _) ?_
    replace hP := hP.dr d
    clear d
    walk_at "go"
    refine wp_if (fun h1 => ?_) (fun h1 => ?_)
    · walk_at "go"
      refine draw_wp hP (by decide) fun r2 s9 r20 r21 d => ?_
      refine wp_set (by rw [d.nxt]) (lb_int _ _) ?_
      replace hP := hP.dr d
      walk_at "go"
      refine ⟨⟨(8 + r2).toNat, ?_, by omega⟩, hP⟩
      have : ((8 + r2).toNat : Int) = 8 + r2 := by omega
      rw [this]; rfl
    · walk_at "go"
      refine ⟨⟨m0.toNat, ?_, by omega⟩, hP⟩
      have : (m0.toNat : Int) = m0 := by omega
      rw [this]; rfl
  obtain ⟨⟨many, rfl, hmany⟩, hP⟩ := h'
  -- first
  walk_at "nx"
  refine changes_wp hP (by omega) (by omega) hrs hspan.1 (by omega) fun L s9 hLl hL d => ?_
  refine wp_settle (settle_dr d chs_lb) ?_
  replace hP := hP.dr d
  clear d
  walk_at "go"
  -- floor
  walk_at "nx"
  refine moment_wp hP hspan.1 (by omega) fun fl s10 hfl hfb d => ?_
  refine wp_set (by rw [d.nxt]) tT_lb ?_
  replace hP := hP.dr d
  clear d
  have hf : Tq n fl := ⟨hfl, fun c hc => (hfb c hc).1⟩
  have hf9 : ∀ c ∈ fl, c ≤ 99 := fun c hc => by have := (hfb c hc).2; omega
  walk_at "go"
  -- way
  walk_at "nx"
  refine draw_wp hP (by decide) fun way s11 _ _ d => ?_
  refine wp_set (by rw [d.nxt]) (lb_int _ _) ?_
  replace hP := hP.dr d
  clear d
  walk_at "go"
  -- second
  walk_at "nx"
  refine detour_wp hP (by omega) (by omega) hL (by omega) hf hrs hspan.1 fun N s12 hN hNl d => ?_
  refine wp_set (by rw [d.nxt]) chs_lbV ?_
  replace hP := hP.dr d
  clear d
  walk_at "go"
  refine wp_nx (by assumption) ?_
  refine wp_seqK ?_
  intro K hK
  try dsimp only [List.set_cons_zero, List.set_cons_succ]
  refine wp_mono (R := fun g s' => (∃ N2 : List Chg, g = .nx [some (.ro (ns.map .int)), some (.loc st0.nxt), some (.int span), some (shP w rs n span), some (.int many), some (.lst (L.map chP)), some (tT fl), some (.int way), some (.lst (N2.map chP)), none, none, none, none, none, none, none] ∧ CH w n N2 ∧ N2.length ≤ 3001) ∧ Pool st0.nxt s') ?_ fun g s13 h' => ?_
  · walk_at "go"
    rw [eqv_int]
    refine wp_if (fun h1 => ?_) (fun h1 => ?_)
    · walk_at "go"
      rw [zs_cut hn4]
      have hz0 := zs_len (c := 0) hn4
      refine bent_wp (z := (List.replicate 4 (0 : Int)).take n) hP hn1 (by omega) (by omega) hN (by omega) hz0 (fun c hc => by
        have := List.mem_of_mem_take hc
        rw [List.mem_replicate] at this
        omega) hrs hspan.1 fun M s13 hM hMl _ d => ?_
      refine wp_settle (settle_dr d chs_lb) ?_
      replace hP := hP.dr d
      walk_at "go"
      exact ⟨⟨M, rfl, hM, by omega⟩, hP⟩
    · walk_at "go"
      exact ⟨⟨N, rfl, hN, by omega⟩, hP⟩
  obtain ⟨⟨N1, rfl, hN1, hN1l⟩, hP⟩ := h'
  clear hN hNl
  refine wp_nx (by assumption) ?_
  refine wp_seqK ?_
  intro K hK
  refine wp_mono (R := fun g s' => (∃ N2 : List Chg, g = .nx [some (.ro (ns.map .int)), some (.loc st0.nxt), some (.int span), some (shP w rs n span), some (.int many), some (.lst (L.map chP)), some (tT fl), some (.int way), some (.lst (N2.map chP)), none, none, none, none, none, none, none] ∧ CH w n N2 ∧ N2.length ≤ 3001) ∧ Pool st0.nxt s') ?_ fun g s14 h' => ?_
  · walk_at "go"
    rw [eqv_int]
    refine wp_if (fun h1 => ?_) (fun h1 => ?_)
    · walk_at "go"
      refine draw_wp hP (by decide) fun r2 s14 r20 r21 d => ?_
      refine wp_set (by rw [d.nxt]) (lb_int _ _) ?_
      replace hP := hP.dr d
      clear d
      obtain ⟨m2, rfl⟩ := Int.eq_ofNat_of_zero_le r20
      walk_at "go"
      refine changes_wp hP (by omega) (by omega) hrs hspan.1 (by omega) fun L2 s15 hL2l hL2 d => ?_
      refine wp_settle (settle_dr d chs_lb) ?_
      replace hP := hP.dr d
      walk_at "go"
      exact ⟨⟨L2, rfl, hL2, by omega⟩, hP⟩
    · walk_at "go"
      exact ⟨⟨N1, rfl, hN1, hN1l⟩, hP⟩
  obtain ⟨⟨N2, rfl, hN2, hN2l⟩, hP⟩ := h'
  clear hN1 hN1l
  have ht : ∀ {X : List Chg}, CH w n X → ∀ x ∈ X, x.2.1.length = n := fun {X} h x hx => (h x hx).2
  -- due
  walk_at "nx"
  refine wp_eq (law_moved_eq (n := n) (by omega) (by omega) (ht hL) hf.1) ?_
  refine wp_set rfl chs_lbV ?_
  walk_at "go"
  -- agreed
  walk_at "nx"
  refine wp_eq (agree_eq hw1 (by omega) (by omega) (by omega) hL hN2 hf) ?_
  walk_at "go"
  walk_at "nx"
  refine wp_eq (alike_right_eq (by omega) (by omega) (by omega) (by omega) hL hN2 hf.1) ?_
  walk_at "go"
  -- longer
  walk_at "nx"
  refine fresh_wp hP (by omega) (by omega) hrs hspan.1 fun ex s15 hex1 hex2 d => ?_
  refine wp_set (by rw [d.nxt]) chP_lb ?_
  replace hP := hP.dr d
  clear d
  walk_at "go"
  walk_at "nx"
  generalize (10 : Int) ^ Int.toNat 50 = big
  refine wp_eq (add_maps (f := chP) (a := N2) (b := [(ex.1, ex.2.1, big)]) (by rw [List.length_singleton]; omega)) ?_
  have hN3 : CH w n (N2 ++ [(ex.1, ex.2.1, big)]) := hN2.snoc (x := (ex.1, ex.2.1, big)) hex1 hex2
  have hN3l : (N2 ++ [(ex.1, ex.2.1, big)]).length ≤ 3002 := by rw [List.length_append, List.length_singleton]; omega
  generalize N2 ++ [(ex.1, ex.2.1, big)] = N3 at hN3 hN3l ⊢
  walk_at "go"
  walk_at "nx"
  refine wp_eq (agree_eq hw1 (by omega) (by omega) (by omega) hL hN3 hf) ?_
  walk_at "go"
  refine wp_eq (alike_right_eq (by omega) (by omega) (by omega) (by omega) hL hN3 hf.1) ?_
  walk_at "go"
  -- each is redated
  have hdC : CH w n (canon (mv fl L)) := (mv_CH hL hf.1).canon
  have hdl : (canon (mv fl L)).length ≤ L.length := by have := canon_len (mv fl L); rw [mv_len] at this; exact this
  have hdA := due_above (ht hL) hf.1
  walk_at "nx"
  have hS3 : SP w n 5000 [L, N2, N3] := fun X hX => by
    simp only [List.mem_cons, List.not_mem_nil, or_false] at hX
    rcases hX with rfl | rfl | rfl
    · exact ⟨hL, by omega⟩
    · exact ⟨hN2, by omega⟩
    · exact ⟨hN3, by omega⟩
  refine forGo_wp (its := ⟨[L, N2, N3].map rP, none⟩) (fun k env s => s = s15 ∧ ∃ u13 u14, env = [some (.ro (ns.map .int)), some (.loc st0.nxt), some (.int span), some (shP w rs n span), some (.int many), some (.lst (L.map chP)), some (tT fl), some (.int way), some (.lst (N2.map chP)), some (.lst ((canon (mv fl L)).map chP)), some (.bl (decide (canon (mv fl L) = canon (mv fl N2)))), some (chP ex), some (.lst (N3.map chP)), u13, u14, none]) _ (fun k x env s hx hI => ?_) (fun env s hI => ?_) ⟨rfl, _, _, rfl⟩
  · obtain ⟨rfl, u13, u14, rfl⟩ := hI
    obtain ⟨X, hX, rfl⟩ := get_lists hx
    obtain ⟨hXC, hXl⟩ := hS3 X hX
    have hXd : CH w n (canon (mv fl X)) := (mv_CH hXC hf.1).canon
    have hXdl : (canon (mv fl X)).length ≤ X.length := by have := canon_len (mv fl X); rw [mv_len] at this; exact this
    clear hK
    refine ⟨Its.ok_none, wp_eq rfl ?_⟩
    walk_at "go"
    refine wp_eq (bList_v (v := .lst (X.map chP)) rfl (by rw [List.length_map]; omega)) ?_
    walk_at "go"
    refine wp_eq (redate_eq (n := n) (by omega) (by omega) (ht hXC) hf.1) ?_
    refine wp_set rfl chs_lbV ?_
    walk_at "go"
    refine wp_eq (law_moved_eq (n := n) (by omega) (by omega) (ht hXC) hf.1) ?_
    refine wp_set rfl chs_lbV ?_
    walk_at "go"
    refine wp_eq (same_ok (v := .lst ((canon (mv fl X)).map chP)) rfl rfl (plain_chs hXd (by omega) (by omega) (by omega))) ?_
    walk_at "go"
    rw [List.length_map, List.length_map]
    refine wp_if (fun h => absurd (of_decide_eq_true h) (by omega)) (fun _ => ?_)
    walk_at "go"
    exact ⟨rfl, _, _, rfl⟩
  obtain ⟨rfl, u13, u14, rfl⟩ := hI
  refine ⟨Its.ok_none, ?_⟩
  -- agreed lists
  refine wp_nx (by assumption) ?_
  refine wp_seqK ?_
  intro K hK
  refine wp_sIf (x := false) (s1 := s) (eq_of_wp ?_) ?_
  · walk_at "go"
    by_cases e : canon (mv fl L) = canon (mv fl N2)
    · rw [decide_eq_true e]
      walk_at "go"
      refine wp_eq (bList_v (v := .lst (N2.map chP)) rfl (by rw [List.length_map]; omega)) ?_
      walk_at "go"
      refine wp_eq (redate_eq (n := n) (by omega) (by omega) (ht hN2) hf.1) ?_
      refine wp_set rfl chs_lbV ?_
      walk_at "go"
      rw [← e]
      refine wp_eq (same_ok (v := .lst ((canon (mv fl L)).map chP)) rfl rfl (plain_chs hdC (by omega) (by omega) (by omega))) ?_
      walk_at "go"
      first | exact ⟨rfl, rfl⟩ | exact wp_ret ⟨rfl, rfl⟩
    · rw [decide_eq_false e]
      walk_at "go"
      first | exact ⟨rfl, rfl⟩ | exact wp_ret ⟨rfl, rfl⟩
  rw [if_neg (by decide)]
  walk_at "go"
  -- lists above the floor
  walk_at "nx"
  refine bent_wp (z := fl) hP hn1 (by omega) (by omega) hdC (by omega) hf.1 hf9 hrs hspan.1 fun B1 s16 hB1 hB1l hB1a d => ?_
  refine wp_settle (settle_dr d chs_lb) ?_
  replace hP := hP.dr d
  clear d
  walk_at "go"
  refine bent_wp (z := fl) hP hn1 (by omega) (by omega) hdC (by omega) hf.1 hf9 hrs hspan.1 fun B2 s17 hB2 hB2l hB2a d => ?_
  refine wp_settle (settle_dr d chs_lb) ?_
  replace hP := hP.dr d
  clear d
  walk_at "go"
  have hSb : ∀ X ∈ [canon (mv fl L), B1, B2], CH w n X ∧ X.length ≤ 5000 ∧ ∀ x ∈ X, leqB fl x.2.1 = true := fun X hX => by
    simp only [List.mem_cons, List.not_mem_nil, or_false] at hX
    rcases hX with rfl | rfl | rfl
    · exact ⟨hdC, by omega, hdA⟩
    · exact ⟨hB1, by omega, hB1a hdA⟩
    · exact ⟨hB2, by omega, hB2a hdA⟩
  refine forGo_wp (its := ⟨[canon (mv fl L), B1, B2].map rP, none⟩) (fun k env s => s = s17 ∧ ∃ u13, env = [some (.ro (ns.map .int)), some (.loc st0.nxt), some (.int span), some (shP w rs n span), some (.int many), some (.lst (L.map chP)), some (tT fl), some (.int way), some (.lst (N2.map chP)), some (.lst ((canon (mv fl L)).map chP)), some (.bl (decide (canon (mv fl L) = canon (mv fl N2)))), some (chP ex), some (.lst (N3.map chP)), u13, u14, none]) _ (fun k x env s hx hI => ?_) (fun env s hI => ?_) ⟨rfl, _, rfl⟩
  · obtain ⟨rfl, u13, rfl⟩ := hI
    obtain ⟨X, hX, rfl⟩ := get_lists hx
    obtain ⟨hXC, hXl, hXa⟩ := hSb X hX
    clear hK
    refine ⟨Its.ok_none, wp_eq rfl ?_⟩
    walk_at "go"
    refine tidied_wp (L := X) (by omega) rfl ?_
    refine wp_settle (settle_new chs_lb) ?_
    walk_at "go"
    refine wp_eq (a := .bl (decide (canon (mv fl L) = canon (mv fl X)))) (s := s) ?_ ?_
    · refine (chE.list.cmpEq (a := canon X) (b := canon (mv fl L)) rfl rfl (by decide)).trans ?_
      rw [mv_above hXa, Bool.bne_false]
      by_cases e : canon X = canon (mv fl L)
      · rw [decide_eq_true e, decide_eq_true e.symm]
      · rw [decide_eq_false e, decide_eq_false fun z => e z.symm]
    walk_at "go"
    refine wp_eq (alike_right_eq (by omega) (by omega) (by omega) (by omega) hL hXC hf.1) ?_
    walk_at "go"
    exact ⟨rfl, _, rfl⟩
  obtain ⟨rfl, u13, rfl⟩ := hI
  refine ⟨Its.ok_none, ?_⟩
  -- spoilt lists
  walk_at "nx"
  refine spoilt_wp hP hn1 (by omega) (by omega) hdC (by omega) hf.1 hrs hspan.1 fun LL s18 hLL d => ?_
  refine wp_settle (settle_dr d rP_lbs) ?_
  walk_at "go"
  refine forGo_wp (its := ⟨LL.map rP, none⟩) (fun k env s => s = s18 ∧ ∃ u13 u15, env = [some (.ro (ns.map .int)), some (.loc st0.nxt), some (.int span), some (shP w rs n span), some (.int many), some (.lst (L.map chP)), some (tT fl), some (.int way), some (.lst (N2.map chP)), some (.lst ((canon (mv fl L)).map chP)), some (.bl (decide (canon (mv fl L) = canon (mv fl N2)))), some (chP ex), some (.lst (N3.map chP)), u13, u14, u15]) _ (fun k x env s hx hI => ?_) (fun env s hI => ?_) ⟨rfl, _, _, rfl⟩
  · obtain ⟨rfl, u13, u15, rfl⟩ := hI
    obtain ⟨X, hX, rfl⟩ := get_lists hx
    obtain ⟨hXC, hXl⟩ := hLL X hX
    clear hK
    refine ⟨Its.ok_none, wp_eq rfl ?_⟩
    walk_at "go"
    refine wp_eq (bList_v (v := .lst (X.map chP)) rfl (by rw [List.length_map]; omega)) ?_
    walk_at "go"
    refine wp_eq (is_small_eq (n := n) (by omega) (by omega) hf.1) ?_
    walk_at "go"
    refine wp_eq (small_eq (n := n) (by omega) (by omega) (ht hXC) hf.1) ?_
    rw [small_iff]
    walk_at "go"
    refine wp_eq same_bl ?_
    walk_at "go"
    refine wp_eq (same_ok (v := .lst (X.map chP)) rfl rfl (plain_chs hXC (by omega) (by omega) (by omega))) ?_
    walk_at "go"
    exact ⟨rfl, _, _, rfl⟩
  obtain ⟨rfl, u13, u15, rfl⟩ := hI
  refine ⟨Its.ok_none, ?_⟩
  refine wp_nx (by assumption) ?_
  walk_at "go"
  rfl
end DL

namespace DL
open PySem PySem.Spec PyProof.Rows L2
theorem all_mk {l : PySem.W.OpenLaw} {w : World} {K : PySem.W.Frag} {h : Heap} {mg : Str → Option Value} {fa : Addr} (X : K.In h) (G : h.Ns mainGlobals mg) (hfa : mg "law" = some (.ref fa))
    (hl : ∀ ns : List Int, ns.length ≤ 63 → ∃ st, f_law [.ro (ns.map .int)] st0 = some (.bl true, st))
    {f1 f2 f3 f4 f5 f6 f7 f8 f9 f10 f11 f12 f13 f14 f15 f16 f17 f18 f19 f20 f21 f22 f23 f24 f25 f26 f27 f28 f29 f30 : Addr}
    {od1 an1 od2 an2 od3 an3 od4 an4 od5 an5 od6 an6 od7 an7 od8 an8 od9 an9 od10 an10 od11 an11 od12 an12 od13 an13 od14 an14 od15 an15 od16 an16 od17 an17 od18 an18 od19 an19 od20 an20 od21 an21 od22 an22 od23 an23 od24 an24 od25 an25 od26 an26 od27 an27 od28 an28 od29 an29 od30 an30 : Option Addr} {sl1 sl2 sl3 sl4 sl5 sl6 sl7 sl8 sl9 sl10 sl11 sl12 sl13 sl14 sl15 sl16 sl17 sl18 sl19 sl20 sl21 sl22 sl23 sl24 sl25 sl26 sl27 sl28 sl29 sl30 : Array (Option Value)} {oc1 kV1 dc1 pm1 cd1 ct1 oc2 kV2 dc2 pm2 cd2 ct2 oc3 kV3 dc3 pm3 cd3 ct3 oc4 kV4 dc4 pm4 cd4 ct4 oc5 kV5 dc5 pm5 cd5 ct5 oc6 kV6 dc6 pm6 cd6 ct6 oc7 kV7 dc7 pm7 cd7 ct7 oc8 kV8 dc8 pm8 cd8 ct8 oc9 kV9 dc9 pm9 cd9 ct9 oc10 kV10 dc10 pm10 cd10 ct10 oc11 kV11 dc11 pm11 cd11 ct11 oc12 kV12 dc12 pm12 cd12 ct12 oc13 kV13 dc13 pm13 cd13 ct13 oc14 kV14 dc14 pm14 cd14 ct14 oc15 kV15 dc15 pm15 cd15 ct15 oc16 kV16 dc16 pm16 cd16 ct16 oc17 kV17 dc17 pm17 cd17 ct17 oc18 kV18 dc18 pm18 cd18 ct18 oc19 kV19 dc19 pm19 cd19 ct19 oc20 kV20 dc20 pm20 cd20 ct20 oc21 kV21 dc21 pm21 cd21 ct21 oc22 kV22 dc22 pm22 cd22 ct22 oc23 kV23 dc23 pm23 cd23 ct23 oc24 kV24 dc24 pm24 cd24 ct24 oc25 kV25 dc25 pm25 cd25 ct25 oc26 kV26 dc26 pm26 cd26 ct26 oc27 kV27 dc27 pm27 cd27 ct27 oc28 kV28 dc28 pm28 cd28 ct28 oc29 kV29 dc29 pm29 cd29 ct29 oc30 kV30 dc30 pm30 cd30 ct30 : Value}
    (a1 : PySem.W.nsIn K mainGlobals "leq" = some (some (.ref f1))) (l1 : K.lookup f1 = some ⟨oc1, od1, .func (PySem.W.fnOf "leq" "leq" (defArgs s_leq) (defBody s_leq) (defScope s_leq) .none kV1 dc1 pm1 an1 cd1 ct1), sl1⟩) (c1 : PySem.W.codeIn K cd1 "leq" = true) (k1 : PySem.W.keepIn K (.ref f1) = true)
    (a2 : PySem.W.nsIn K mainGlobals "lub" = some (some (.ref f2))) (l2 : K.lookup f2 = some ⟨oc2, od2, .func (PySem.W.fnOf "lub" "lub" (defArgs s_lub) (defBody s_lub) (defScope s_lub) .none kV2 dc2 pm2 an2 cd2 ct2), sl2⟩) (c2 : PySem.W.codeIn K cd2 "lub" = true) (k2 : PySem.W.keepIn K (.ref f2) = true)
    (a3 : PySem.W.nsIn K mainGlobals "tidy" = some (some (.ref f3))) (l3 : K.lookup f3 = some ⟨oc3, od3, .func (PySem.W.fnOf "tidy" "tidy" (defArgs s_tidy) (defBody s_tidy) (defScope s_tidy) .none kV3 dc3 pm3 an3 cd3 ct3), sl3⟩) (c3 : PySem.W.codeIn K cd3 "tidy" = true) (k3 : PySem.W.keepIn K (.ref f3) = true)
    (a4 : PySem.W.nsIn K mainGlobals "redate" = some (some (.ref f4))) (l4 : K.lookup f4 = some ⟨oc4, od4, .func (PySem.W.fnOf "redate" "redate" (defArgs s_redate) (defBody s_redate) (defScope s_redate) .none kV4 dc4 pm4 an4 cd4 ct4), sl4⟩) (c4 : PySem.W.codeIn K cd4 "redate" = true) (k4 : PySem.W.keepIn K (.ref f4) = true)
    (a5 : PySem.W.nsIn K mainGlobals "is_small" = some (some (.ref f5))) (l5 : K.lookup f5 = some ⟨oc5, od5, .func (PySem.W.fnOf "is_small" "is_small" (defArgs s_is_small) (defBody s_is_small) (defScope s_is_small) .none kV5 dc5 pm5 an5 cd5 ct5), sl5⟩) (c5 : PySem.W.codeIn K cd5 "is_small" = true) (k5 : PySem.W.keepIn K (.ref f5) = true)
    (a6 : PySem.W.nsIn K mainGlobals "answers_alike" = some (some (.ref f6))) (l6 : K.lookup f6 = some ⟨oc6, od6, .func (PySem.W.fnOf "answers_alike" "answers_alike" (defArgs s_answers_alike) (defBody s_answers_alike) (defScope s_answers_alike) .none kV6 dc6 pm6 an6 cd6 ct6), sl6⟩) (c6 : PySem.W.codeIn K cd6 "answers_alike" = true) (k6 : PySem.W.keepIn K (.ref f6) = true)
    (a7 : PySem.W.nsIn K mainGlobals "_law_mix" = some (some (.ref f7))) (l7 : K.lookup f7 = some ⟨oc7, od7, .func (PySem.W.fnOf "_law_mix" "_law_mix" (defArgs s_law_mix) (defBody s_law_mix) (defScope s_law_mix) .none kV7 dc7 pm7 an7 cd7 ct7), sl7⟩) (c7 : PySem.W.codeIn K cd7 "_law_mix" = true) (k7 : PySem.W.keepIn K (.ref f7) = true)
    (a8 : PySem.W.nsIn K mainGlobals "_law_pool" = some (some (.ref f8))) (l8 : K.lookup f8 = some ⟨oc8, od8, .func (PySem.W.fnOf "_law_pool" "_law_pool" (defArgs s_law_pool) (defBody s_law_pool) (defScope s_law_pool) .none kV8 dc8 pm8 an8 cd8 ct8), sl8⟩) (c8 : PySem.W.codeIn K cd8 "_law_pool" = true) (k8 : PySem.W.keepIn K (.ref f8) = true)
    (a9 : PySem.W.nsIn K mainGlobals "_law_draw" = some (some (.ref f9))) (l9 : K.lookup f9 = some ⟨oc9, od9, .func (PySem.W.fnOf "_law_draw" "_law_draw" (defArgs s_law_draw) (defBody s_law_draw) (defScope s_law_draw) .none kV9 dc9 pm9 an9 cd9 ct9), sl9⟩) (c9 : PySem.W.codeIn K cd9 "_law_draw" = true) (k9 : PySem.W.keepIn K (.ref f9) = true)
    (a10 : PySem.W.nsIn K mainGlobals "_law_pick" = some (some (.ref f10))) (l10 : K.lookup f10 = some ⟨oc10, od10, .func (PySem.W.fnOf "_law_pick" "_law_pick" (defArgs s_law_pick) (defBody s_law_pick) (defScope s_law_pick) .none kV10 dc10 pm10 an10 cd10 ct10), sl10⟩) (c10 : PySem.W.codeIn K cd10 "_law_pick" = true) (k10 : PySem.W.keepIn K (.ref f10) = true)
    (a11 : PySem.W.nsIn K mainGlobals "_law_whole" = some (some (.ref f11))) (l11 : K.lookup f11 = some ⟨oc11, od11, .func (PySem.W.fnOf "_law_whole" "_law_whole" (defArgs s_law_whole) (defBody s_law_whole) (defScope s_law_whole) .none kV11 dc11 pm11 an11 cd11 ct11), sl11⟩) (c11 : PySem.W.codeIn K cd11 "_law_whole" = true) (k11 : PySem.W.keepIn K (.ref f11) = true)
    (a12 : PySem.W.nsIn K mainGlobals "_law_plain" = some (some (.ref f12))) (l12 : K.lookup f12 = some ⟨oc12, od12, .func (PySem.W.fnOf "_law_plain" "_law_plain" (defArgs s_law_plain) (defBody s_law_plain) (defScope s_law_plain) .none kV12 dc12 pm12 an12 cd12 ct12), sl12⟩) (c12 : PySem.W.codeIn K cd12 "_law_plain" = true) (k12 : PySem.W.keepIn K (.ref f12) = true)
    (a13 : PySem.W.nsIn K mainGlobals "_law_same" = some (some (.ref f13))) (l13 : K.lookup f13 = some ⟨oc13, od13, .func (PySem.W.fnOf "_law_same" "_law_same" (defArgs s_law_same) (defBody s_law_same) (defScope s_law_same) .none kV13 dc13 pm13 an13 cd13 ct13), sl13⟩) (c13 : PySem.W.codeIn K cd13 "_law_same" = true) (k13 : PySem.W.keepIn K (.ref f13) = true)
    (a14 : PySem.W.nsIn K mainGlobals "_law_leq" = some (some (.ref f14))) (l14 : K.lookup f14 = some ⟨oc14, od14, .func (PySem.W.fnOf "_law_leq" "_law_leq" (defArgs s_law_leq) (defBody s_law_leq) (defScope s_law_leq) .none kV14 dc14 pm14 an14 cd14 ct14), sl14⟩) (c14 : PySem.W.codeIn K cd14 "_law_leq" = true) (k14 : PySem.W.keepIn K (.ref f14) = true)
    (a15 : PySem.W.nsIn K mainGlobals "_law_join" = some (some (.ref f15))) (l15 : K.lookup f15 = some ⟨oc15, od15, .func (PySem.W.fnOf "_law_join" "_law_join" (defArgs s_law_join) (defBody s_law_join) (defScope s_law_join) .none kV15 dc15 pm15 an15 cd15 ct15), sl15⟩) (c15 : PySem.W.codeIn K cd15 "_law_join" = true) (k15 : PySem.W.keepIn K (.ref f15) = true)
    (a16 : PySem.W.nsIn K mainGlobals "_law_moment" = some (some (.ref f16))) (l16 : K.lookup f16 = some ⟨oc16, od16, .func (PySem.W.fnOf "_law_moment" "_law_moment" (defArgs s_law_moment) (defBody s_law_moment) (defScope s_law_moment) .none kV16 dc16 pm16 an16 cd16 ct16), sl16⟩) (c16 : PySem.W.codeIn K cd16 "_law_moment" = true) (k16 : PySem.W.keepIn K (.ref f16) = true)
    (a17 : PySem.W.nsIn K mainGlobals "_law_fresh" = some (some (.ref f17))) (l17 : K.lookup f17 = some ⟨oc17, od17, .func (PySem.W.fnOf "_law_fresh" "_law_fresh" (defArgs s_law_fresh) (defBody s_law_fresh) (defScope s_law_fresh) .none kV17 dc17 pm17 an17 cd17 ct17), sl17⟩) (c17 : PySem.W.codeIn K cd17 "_law_fresh" = true) (k17 : PySem.W.keepIn K (.ref f17) = true)
    (a18 : PySem.W.nsIn K mainGlobals "_law_changes" = some (some (.ref f18))) (l18 : K.lookup f18 = some ⟨oc18, od18, .func (PySem.W.fnOf "_law_changes" "_law_changes" (defArgs s_law_changes) (defBody s_law_changes) (defScope s_law_changes) .none kV18 dc18 pm18 an18 cd18 ct18), sl18⟩) (c18 : PySem.W.codeIn K cd18 "_law_changes" = true) (k18 : PySem.W.keepIn K (.ref f18) = true)
    (a19 : PySem.W.nsIn K mainGlobals "_law_beside" = some (some (.ref f19))) (l19 : K.lookup f19 = some ⟨oc19, od19, .func (PySem.W.fnOf "_law_beside" "_law_beside" (defArgs s_law_beside) (defBody s_law_beside) (defScope s_law_beside) .none kV19 dc19 pm19 an19 cd19 ct19), sl19⟩) (c19 : PySem.W.codeIn K cd19 "_law_beside" = true) (k19 : PySem.W.keepIn K (.ref f19) = true)
    (a20 : PySem.W.nsIn K mainGlobals "_law_detour" = some (some (.ref f20))) (l20 : K.lookup f20 = some ⟨oc20, od20, .func (PySem.W.fnOf "_law_detour" "_law_detour" (defArgs s_law_detour) (defBody s_law_detour) (defScope s_law_detour) .none kV20 dc20 pm20 an20 cd20 ct20), sl20⟩) (c20 : PySem.W.codeIn K cd20 "_law_detour" = true) (k20 : PySem.W.keepIn K (.ref f20) = true)
    (a21 : PySem.W.nsIn K mainGlobals "_law_bent" = some (some (.ref f21))) (l21 : K.lookup f21 = some ⟨oc21, od21, .func (PySem.W.fnOf "_law_bent" "_law_bent" (defArgs s_law_bent) (defBody s_law_bent) (defScope s_law_bent) .none kV21 dc21 pm21 an21 cd21 ct21), sl21⟩) (c21 : PySem.W.codeIn K cd21 "_law_bent" = true) (k21 : PySem.W.keepIn K (.ref f21) = true)
    (a22 : PySem.W.nsIn K mainGlobals "_law_tidied" = some (some (.ref f22))) (l22 : K.lookup f22 = some ⟨oc22, od22, .func (PySem.W.fnOf "_law_tidied" "_law_tidied" (defArgs s_law_tidied) (defBody s_law_tidied) (defScope s_law_tidied) .none kV22 dc22 pm22 an22 cd22 ct22), sl22⟩) (c22 : PySem.W.codeIn K cd22 "_law_tidied" = true) (k22 : PySem.W.keepIn K (.ref f22) = true)
    (a23 : PySem.W.nsIn K mainGlobals "_law_moved" = some (some (.ref f23))) (l23 : K.lookup f23 = some ⟨oc23, od23, .func (PySem.W.fnOf "_law_moved" "_law_moved" (defArgs s_law_moved) (defBody s_law_moved) (defScope s_law_moved) .none kV23 dc23 pm23 an23 cd23 ct23), sl23⟩) (c23 : PySem.W.codeIn K cd23 "_law_moved" = true) (k23 : PySem.W.keepIn K (.ref f23) = true)
    (a24 : PySem.W.nsIn K mainGlobals "_law_seen" = some (some (.ref f24))) (l24 : K.lookup f24 = some ⟨oc24, od24, .func (PySem.W.fnOf "_law_seen" "_law_seen" (defArgs s_law_seen) (defBody s_law_seen) (defScope s_law_seen) .none kV24 dc24 pm24 an24 cd24 ct24), sl24⟩) (c24 : PySem.W.codeIn K cd24 "_law_seen" = true) (k24 : PySem.W.keepIn K (.ref f24) = true)
    (a25 : PySem.W.nsIn K mainGlobals "_law_agree" = some (some (.ref f25))) (l25 : K.lookup f25 = some ⟨oc25, od25, .func (PySem.W.fnOf "_law_agree" "_law_agree" (defArgs s_law_agree) (defBody s_law_agree) (defScope s_law_agree) .none kV25 dc25 pm25 an25 cd25 ct25), sl25⟩) (c25 : PySem.W.codeIn K cd25 "_law_agree" = true) (k25 : PySem.W.keepIn K (.ref f25) = true)
    (a26 : PySem.W.nsIn K mainGlobals "_law_small" = some (some (.ref f26))) (l26 : K.lookup f26 = some ⟨oc26, od26, .func (PySem.W.fnOf "_law_small" "_law_small" (defArgs s_law_small) (defBody s_law_small) (defScope s_law_small) .none kV26 dc26 pm26 an26 cd26 ct26), sl26⟩) (c26 : PySem.W.codeIn K cd26 "_law_small" = true) (k26 : PySem.W.keepIn K (.ref f26) = true)
    (a27 : PySem.W.nsIn K mainGlobals "_law_ordered" = some (some (.ref f27))) (l27 : K.lookup f27 = some ⟨oc27, od27, .func (PySem.W.fnOf "_law_ordered" "_law_ordered" (defArgs s_law_ordered) (defBody s_law_ordered) (defScope s_law_ordered) .none kV27 dc27 pm27 an27 cd27 ct27), sl27⟩) (c27 : PySem.W.codeIn K cd27 "_law_ordered" = true) (k27 : PySem.W.keepIn K (.ref f27) = true)
    (a28 : PySem.W.nsIn K mainGlobals "_law_spoilt" = some (some (.ref f28))) (l28 : K.lookup f28 = some ⟨oc28, od28, .func (PySem.W.fnOf "_law_spoilt" "_law_spoilt" (defArgs s_law_spoilt) (defBody s_law_spoilt) (defScope s_law_spoilt) .none kV28 dc28 pm28 an28 cd28 ct28), sl28⟩) (c28 : PySem.W.codeIn K cd28 "_law_spoilt" = true) (k28 : PySem.W.keepIn K (.ref f28) = true)
    (a29 : PySem.W.nsIn K mainGlobals "_law_alike_right" = some (some (.ref f29))) (l29 : K.lookup f29 = some ⟨oc29, od29, .func (PySem.W.fnOf "_law_alike_right" "_law_alike_right" (defArgs s_law_alike_right) (defBody s_law_alike_right) (defScope s_law_alike_right) .none kV29 dc29 pm29 an29 cd29 ct29), sl29⟩) (c29 : PySem.W.codeIn K cd29 "_law_alike_right" = true) (k29 : PySem.W.keepIn K (.ref f29) = true)
    (a30 : PySem.W.nsIn K mainGlobals "law" = some (some (.ref f30))) (l30 : K.lookup f30 = some ⟨oc30, od30, .func (PySem.W.fnOf "law" "law" (defArgs s_law) (defBody s_law) (defScope s_law) .none kV30 dc30 pm30 an30 cd30 ct30), sl30⟩) (c30 : PySem.W.codeIn K cd30 "law" = true) (k30 : PySem.W.keepIn K (.ref f30) = true)
    (z0 : PySem.W.nsIn K mainGlobals "len" = some none)
    (z1 : PySem.W.nsIn K mainGlobals "abs" = some none)
    (z2 : PySem.W.nsIn K mainGlobals "int" = some none)
    (z3 : PySem.W.nsIn K mainGlobals "max" = some none)
    (z4 : PySem.W.nsIn K mainGlobals "min" = some none)
    (z5 : PySem.W.nsIn K mainGlobals "tuple" = some none)
    (z6 : PySem.W.nsIn K mainGlobals "list" = some none)
    (z7 : PySem.W.nsIn K mainGlobals "sorted" = some none)
    (z8 : PySem.W.nsIn K mainGlobals "isinstance" = some none)
    (z9 : PySem.W.nsIn K mainGlobals "range" = some none)
    (z10 : PySem.W.nsIn K mainGlobals "bool" = some none)
    (z11 : PySem.W.nsIn K mainGlobals "str" = some none)
    (z12 : PySem.W.nsIn K mainGlobals "dict" = some none)
    (z13 : PySem.W.nsIn K mainGlobals "set" = some none)
    (z14 : PySem.W.nsIn K mainGlobals "reversed" = some none)
    (z15 : PySem.W.nsIn K mainGlobals "sum" = some none)
    : ∃ fd : FuncData, (∀ (s : Shared) (v : Value), BindsTo s fd ⟨[v], []⟩ [("script", v)]) ∧ ∀ base : Heap, K.In base → base.Ns mainGlobals mg → FnOk l.prog w K mg base CX0 15 fa fd ["script"] (spLaw K) := by
  have e := hfa.symm.trans (PySem.W.mg_of X G a30)
  cases e
  have B : BsOk mg := by
    intro n hn
    have hn : n ∈ bs := List.contains_iff_mem.mp hn
    simp only [bs, List.mem_cons, List.not_mem_nil, or_false] at hn
    rcases hn with rfl | rfl | rfl | rfl | rfl | rfl | rfl | rfl | rfl | rfl | rfl | rfl | rfl | rfl | rfl | rfl
    · exact PySem.W.mg_none_of X G z0
    · exact PySem.W.mg_none_of X G z1
    · exact PySem.W.mg_none_of X G z2
    · exact PySem.W.mg_none_of X G z3
    · exact PySem.W.mg_none_of X G z4
    · exact PySem.W.mg_none_of X G z5
    · exact PySem.W.mg_none_of X G z6
    · exact PySem.W.mg_none_of X G z7
    · exact PySem.W.mg_none_of X G z8
    · exact PySem.W.mg_none_of X G z9
    · exact PySem.W.mg_none_of X G z10
    · exact PySem.W.mg_none_of X G z11
    · exact PySem.W.mg_none_of X G z12
    · exact PySem.W.mg_none_of X G z13
    · exact PySem.W.mg_none_of X G z14
    · exact PySem.W.mg_none_of X G z15
  refine ⟨PySem.W.fnOf "law" "law" (defArgs s_law) (defBody s_law) (defScope s_law) .none kV30 dc30 pm30 an30 cd30 ct30, fun s v => .of_eq rfl, fun base _ _ => ?_⟩
  have E1 := e_leq (P := l.prog) (w := w) (base := base) (fun_mk (st := s_leq) l1 c1 k1) (PySem.W.mg_of X G a1) B
  have E2 := e_lub (P := l.prog) (w := w) (base := base) (fun_mk (st := s_lub) l2 c2 k2) (PySem.W.mg_of X G a2) B
  have E3 := e_tidy (P := l.prog) (w := w) (base := base) (fun_mk (st := s_tidy) l3 c3 k3) (PySem.W.mg_of X G a3) B
  have E4 := e_redate (P := l.prog) (w := w) (base := base) (fun_mk (st := s_redate) l4 c4 k4) (PySem.W.mg_of X G a4) B E3 E2
  have E5 := e_is_small (P := l.prog) (w := w) (base := base) (fun_mk (st := s_is_small) l5 c5 k5) (PySem.W.mg_of X G a5) B E3 E1
  have E6 := e_answers_alike (P := l.prog) (w := w) (base := base) (fun_mk (st := s_answers_alike) l6 c6 k6) (PySem.W.mg_of X G a6) B E4
  have E7 := e_law_mix (P := l.prog) (w := w) (base := base) (fun_mk (st := s_law_mix) l7 c7 k7) (PySem.W.mg_of X G a7) B
  have E8 := e_law_pool (P := l.prog) (w := w) (base := base) (fun_mk (st := s_law_pool) l8 c8 k8) (PySem.W.mg_of X G a8) B E7
  have E9 := e_law_draw (P := l.prog) (w := w) (base := base) (fun_mk (st := s_law_draw) l9 c9 k9) (PySem.W.mg_of X G a9) B E7
  have E10 := e_law_pick (P := l.prog) (w := w) (base := base) (fun_mk (st := s_law_pick) l10 c10 k10) (PySem.W.mg_of X G a10) B E9
  have E11 := e_law_whole (P := l.prog) (w := w) (base := base) (fun_mk (st := s_law_whole) l11 c11 k11) (PySem.W.mg_of X G a11) B
  have E12 := e_law_plain (P := l.prog) (w := w) (base := base) (fun_mk (st := s_law_plain) l12 c12 k12) (PySem.W.mg_of X G a12) B E11 6
  have E13 := e_law_same (P := l.prog) (w := w) (base := base) (fun_mk (st := s_law_same) l13 c13 k13) (PySem.W.mg_of X G a13) B E11 E12 6
  have E14 := e_law_leq (P := l.prog) (w := w) (base := base) (fun_mk (st := s_law_leq) l14 c14 k14) (PySem.W.mg_of X G a14) B
  have E15 := e_law_join (P := l.prog) (w := w) (base := base) (fun_mk (st := s_law_join) l15 c15 k15) (PySem.W.mg_of X G a15) B
  have E16 := e_law_moment (P := l.prog) (w := w) (base := base) (fun_mk (st := s_law_moment) l16 c16 k16) (PySem.W.mg_of X G a16) B E9
  have E17 := e_law_fresh (P := l.prog) (w := w) (base := base) (fun_mk (st := s_law_fresh) l17 c17 k17) (PySem.W.mg_of X G a17) B E10 E16 E9
  have E18 := e_law_changes (P := l.prog) (w := w) (base := base) (fun_mk (st := s_law_changes) l18 c18 k18) (PySem.W.mg_of X G a18) B E17 E9 E10
  have E19 := e_law_beside (P := l.prog) (w := w) (base := base) (fun_mk (st := s_law_beside) l19 c19 k19) (PySem.W.mg_of X G a19) B E9
  have E20 := e_law_detour (P := l.prog) (w := w) (base := base) (fun_mk (st := s_law_detour) l20 c20 k20) (PySem.W.mg_of X G a20) B E9 E17 E19
  have E21 := e_law_bent (P := l.prog) (w := w) (base := base) (fun_mk (st := s_law_bent) l21 c21 k21) (PySem.W.mg_of X G a21) B E9 E17 E15 E10
  have E22 := e_law_tidied (P := l.prog) (w := w) (base := base) (fun_mk (st := s_law_tidied) l22 c22 k22) (PySem.W.mg_of X G a22) B
  have E23 := e_law_moved (P := l.prog) (w := w) (base := base) (fun_mk (st := s_law_moved) l23 c23 k23) (PySem.W.mg_of X G a23) B E22 E15
  have E24 := e_law_seen (P := l.prog) (w := w) (base := base) (fun_mk (st := s_law_seen) l24 c24 k24) (PySem.W.mg_of X G a24) B E14
  have E25 := e_law_agree (P := l.prog) (w := w) (base := base) (fun_mk (st := s_law_agree) l25 c25 k25) (PySem.W.mg_of X G a25) B E15 E24
  have E26 := e_law_small (P := l.prog) (w := w) (base := base) (fun_mk (st := s_law_small) l26 c26 k26) (PySem.W.mg_of X G a26) B E14
  have E27 := e_law_ordered (P := l.prog) (w := w) (base := base) (fun_mk (st := s_law_ordered) l27 c27 k27) (PySem.W.mg_of X G a27) B
  have E28 := e_law_spoilt (P := l.prog) (w := w) (base := base) (fun_mk (st := s_law_spoilt) l28 c28 k28) (PySem.W.mg_of X G a28) B E17 E9 E27 E15
  have E29 := e_law_alike_right (P := l.prog) (w := w) (base := base) (fun_mk (st := s_law_alike_right) l29 c29 k29) (PySem.W.mg_of X G a29) B E13 E6
  unfold f_law at hl
  exact law_end (fn_tr (k := 14) (fun_mk (st := s_law) l30 c30 k30) sc_law (GAll.cons (E8.mono (by decide)) (GAll.cons (E10.mono (by decide)) (GAll.cons (E9.mono (by decide)) (GAll.cons (E18.mono (by decide)) (GAll.cons (E16.mono (by decide)) (GAll.cons (E20.mono (by decide)) (GAll.cons (E23.mono (by decide)) (GAll.cons (E25.mono (by decide)) (GAll.cons (E17.mono (by decide)) (GAll.cons (E28.mono (by decide)) (GAll.cons (E21.mono (by decide)) (GAll.cons (E29.mono (by decide)) (GAll.cons (E4.mono (by decide)) (GAll.cons (E13.mono (by decide)) (GAll.cons (E22.mono (by decide)) (GAll.cons (E5.mono (by decide)) (GAll.cons (E26.mono (by decide)) GAll.nil))))))))))))))))) B t_law) hl
end DL
open DL
open PySem PySem.W PyProof.Rows in
set_option maxRecDepth 100000 in
set_option maxHeartbeats 0 in
theorem PySem.Challenge.cw_deltastead_k07_whole_only_and_shortest_holds : PySem.Challenge.rw_deltastead_k07_whole_only_and_shortest.Holds := by
  w_on; o_law; k_head; (case hw => w_witness2)
  k_fill
  refine DL.walk (l := PySem.Challenge.rw_deltastead_k07_whole_only_and_shortest) (k := 15) (by decide) rfl rfl (fun w h Y => PySem.W.kIn_of Y) ?F
  case F =>
    intro w mg fa h KX G hmg
    refine' all_mk KX G hmg law_true ?a1 ?l1 ?c1 ?k1 ?a2 ?l2 ?c2 ?k2 ?a3 ?l3 ?c3 ?k3 ?a4 ?l4 ?c4 ?k4 ?a5 ?l5 ?c5 ?k5 ?a6 ?l6 ?c6 ?k6 ?a7 ?l7 ?c7 ?k7 ?a8 ?l8 ?c8 ?k8 ?a9 ?l9 ?c9 ?k9 ?a10 ?l10 ?c10 ?k10 ?a11 ?l11 ?c11 ?k11 ?a12 ?l12 ?c12 ?k12 ?a13 ?l13 ?c13 ?k13 ?a14 ?l14 ?c14 ?k14 ?a15 ?l15 ?c15 ?k15 ?a16 ?l16 ?c16 ?k16 ?a17 ?l17 ?c17 ?k17 ?a18 ?l18 ?c18 ?k18 ?a19 ?l19 ?c19 ?k19 ?a20 ?l20 ?c20 ?k20 ?a21 ?l21 ?c21 ?k21 ?a22 ?l22 ?c22 ?k22 ?a23 ?l23 ?c23 ?k23 ?a24 ?l24 ?c24 ?k24 ?a25 ?l25 ?c25 ?k25 ?a26 ?l26 ?c26 ?k26 ?a27 ?l27 ?c27 ?k27 ?a28 ?l28 ?c28 ?k28 ?a29 ?l29 ?c29 ?k29 ?a30 ?l30 ?c30 ?k30 ?z0 ?z1 ?z2 ?z3 ?z4 ?z5 ?z6 ?z7 ?z8 ?z9 ?z10 ?z11 ?z12 ?z13 ?z14 ?z15
    (case a1 => k_is)
    (case l1 => k_is)
    (case c1 => k_is)
    (case k1 => k_is)
    (case a2 => k_is)
    (case l2 => k_is)
    (case c2 => k_is)
    (case k2 => k_is)
    (case a3 => k_is)
    (case l3 => k_is)
    (case c3 => k_is)
    (case k3 => k_is)
    (case a4 => k_is)
    (case l4 => k_is)
    (case c4 => k_is)
    (case k4 => k_is)
    (case a5 => k_is)
    (case l5 => k_is)
    (case c5 => k_is)
    (case k5 => k_is)
    (case a6 => k_is)
    (case l6 => k_is)
    (case c6 => k_is)
    (case k6 => k_is)
    (case a7 => k_is)
    (case l7 => k_is)
    (case c7 => k_is)
    (case k7 => k_is)
    (case a8 => k_is)
    (case l8 => k_is)
    (case c8 => k_is)
    (case k8 => k_is)
    (case a9 => k_is)
    (case l9 => k_is)
    (case c9 => k_is)
    (case k9 => k_is)
    (case a10 => k_is)
    (case l10 => k_is)
    (case c10 => k_is)
    (case k10 => k_is)
    (case a11 => k_is)
    (case l11 => k_is)
    (case c11 => k_is)
    (case k11 => k_is)
    (case a12 => k_is)
    (case l12 => k_is)
    (case c12 => k_is)
    (case k12 => k_is)
    (case a13 => k_is)
    (case l13 => k_is)
    (case c13 => k_is)
    (case k13 => k_is)
    (case a14 => k_is)
    (case l14 => k_is)
    (case c14 => k_is)
    (case k14 => k_is)
    (case a15 => k_is)
    (case l15 => k_is)
    (case c15 => k_is)
    (case k15 => k_is)
    (case a16 => k_is)
    (case l16 => k_is)
    (case c16 => k_is)
    (case k16 => k_is)
    (case a17 => k_is)
    (case l17 => k_is)
    (case c17 => k_is)
    (case k17 => k_is)
    (case a18 => k_is)
    (case l18 => k_is)
    (case c18 => k_is)
    (case k18 => k_is)
    (case a19 => k_is)
    (case l19 => k_is)
    (case c19 => k_is)
    (case k19 => k_is)
    (case a20 => k_is)
    (case l20 => k_is)
    (case c20 => k_is)
    (case k20 => k_is)
    (case a21 => k_is)
    (case l21 => k_is)
    (case c21 => k_is)
    (case k21 => k_is)
    (case a22 => k_is)
    (case l22 => k_is)
    (case c22 => k_is)
    (case k22 => k_is)
    (case a23 => k_is)
    (case l23 => k_is)
    (case c23 => k_is)
    (case k23 => k_is)
    (case a24 => k_is)
    (case l24 => k_is)
    (case c24 => k_is)
    (case k24 => k_is)
    (case a25 => k_is)
    (case l25 => k_is)
    (case c25 => k_is)
    (case k25 => k_is)
    (case a26 => k_is)
    (case l26 => k_is)
    (case c26 => k_is)
    (case k26 => k_is)
    (case a27 => k_is)
    (case l27 => k_is)
    (case c27 => k_is)
    (case k27 => k_is)
    (case a28 => k_is)
    (case l28 => k_is)
    (case c28 => k_is)
    (case k28 => k_is)
    (case a29 => k_is)
    (case l29 => k_is)
    (case c29 => k_is)
    (case k29 => k_is)
    (case a30 => k_is)
    (case l30 => k_is)
    (case c30 => k_is)
    (case k30 => k_is)
    (case z0 => k_is)
    (case z1 => k_is)
    (case z2 => k_is)
    (case z3 => k_is)
    (case z4 => k_is)
    (case z5 => k_is)
    (case z6 => k_is)
    (case z7 => k_is)
    (case z8 => k_is)
    (case z9 => k_is)
    (case z10 => k_is)
    (case z11 => k_is)
    (case z12 => k_is)
    (case z13 => k_is)
    (case z14 => k_is)
    (case z15 => k_is)

