import PyProof.Rows.All
import Wide.All
import OpenK.AllK
import Wide.FinOn
import HandS.ForMost
import HandS.TupAny
import HandS.TupMul
import HandS.IsInst
import HandS.Deep
import HandS.TupSets
import HandS.Rev
import HandS.DictComp
import HandS.Conv
import HandS.TupLen
import KE.KDictKeyed
import KE.KeyNested
import KE.SortData
import PyProof.Rows.StrTemp
import KE.KDictWalk
import PyProof.Draws
import PyProof.TupleOfSeq
import HandS.Small
import PySem.Challenge.RW_deltastead_k11_whole_least_orders
set_option Elab.async false
set_option linter.all false
set_option maxRecDepth 100000
set_option maxHeartbeats 4000000
/-! DL0: values without a heap (PV), a store of what may still change (Sto), and what a piece of a text computes over them. -/
namespace DL
open PySem L2

/-- a value: tuples and lists that nobody changes any more are told by their items; what may change stands in the store, at a place -/
inductive PV where
  | non | bl (b : Bool) | int (i : Int) | str (x : Str)
  | tup (xs : List PV) | lst (xs : List PV) | ro (xs : List PV)
  | dct (ks vs : List PV) | loc (l : Nat)
  | dki (ks : List Int) (vs : List PV)

/-- what stands at a place (no places within) -/
inductive Cell where
  | lst (xs : List PV) | dct (ks vs : List PV)
  | dki (ks : List Int) (vs : List PV)

/-! ### places within a value -/
mutual
def PV.lb (n : Nat) : PV → Bool
  | .tup xs => lbs n xs
  | .lst xs => lbs n xs
  | .ro xs => lbs n xs
  | .dct ks vs => lbs n ks && lbs n vs
  | .dki _ vs => lbs n vs
  | .loc l => decide (l < n)
  | .non => true
  | .bl _ => true
  | .int _ => true
  | .str _ => true
def lbs (n : Nat) : List PV → Bool
  | [] => true
  | x :: r => x.lb n && lbs n r
end
mutual
theorem PV.lb_mono {n m : Nat} (q : n ≤ m) : ∀ {v : PV}, v.lb n = true → v.lb m = true
  | .tup xs, h => by rw [PV.lb] at h ⊢; exact lbs_mono q h
  | .lst xs, h => by rw [PV.lb] at h ⊢; exact lbs_mono q h
  | .ro xs, h => by rw [PV.lb] at h ⊢; exact lbs_mono q h
  | .dct ks vs, h => by
    rw [PV.lb, Bool.and_eq_true] at h ⊢
    exact ⟨lbs_mono q h.1, lbs_mono q h.2⟩
  | .dki ks vs, h => by rw [PV.lb] at h ⊢; exact lbs_mono q h
  | .loc l, h => by
    rw [PV.lb, decide_eq_true_eq] at h ⊢
    omega
  | .non, _ => by rw [PV.lb]
  | .bl _, _ => by rw [PV.lb]
  | .int _, _ => by rw [PV.lb]
  | .str _, _ => by rw [PV.lb]
theorem lbs_mono {n m : Nat} (q : n ≤ m) : ∀ {xs : List PV}, lbs n xs = true → lbs m xs = true
  | [], _ => by rw [lbs]
  | x :: r, h => by
    rw [lbs, Bool.and_eq_true] at h ⊢
    exact ⟨PV.lb_mono q h.1, lbs_mono q h.2⟩
end
theorem lbs_all {n : Nat} : ∀ {xs : List PV}, lbs n xs = xs.all (PV.lb n)
  | [] => by rw [lbs]; rfl
  | x :: r => by rw [lbs, List.all_cons, lbs_all]
theorem lbs_append {n : Nat} {xs ys : List PV} : lbs n (xs ++ ys) = (lbs n xs && lbs n ys) := by
  rw [lbs_all, lbs_all, lbs_all, List.all_append]
theorem lbs_map {α : Type} {n : Nat} {f : α → PV} (h : ∀ a, (f a).lb n = true) (l : List α) : lbs n (l.map f) = true := by
  rw [lbs_all, List.all_map, List.all_eq_true]
  intro x _
  exact h x
theorem lb_int (n : Nat) (i : Int) : (PV.int i).lb n = true := by rw [PV.lb]
theorem lb_bl (n : Nat) (i : Bool) : (PV.bl i).lb n = true := by rw [PV.lb]
theorem lb_non (n : Nat) : PV.non.lb n = true := by rw [PV.lb]
theorem lb_str (n : Nat) (i : Str) : (PV.str i).lb n = true := by rw [PV.lb]
theorem lb_tup (n : Nat) (xs : List PV) : (PV.tup xs).lb n = lbs n xs := by rw [PV.lb]
theorem lb_lst (n : Nat) (xs : List PV) : (PV.lst xs).lb n = lbs n xs := by rw [PV.lb]
theorem lb_ro (n : Nat) (xs : List PV) : (PV.ro xs).lb n = lbs n xs := by rw [PV.lb]
theorem lb_dki (n : Nat) (ks : List Int) (vs : List PV) : (PV.dki ks vs).lb n = lbs n vs := by rw [PV.lb]
theorem lb_dct (n : Nat) (ks vs : List PV) : (PV.dct ks vs).lb n = (lbs n ks && lbs n vs) := by rw [PV.lb]
theorem lb_loc (n l : Nat) : (PV.loc l).lb n = decide (l < n) := by rw [PV.lb]
theorem lbs_nil (n : Nat) : lbs n [] = true := by rw [lbs]
theorem lbs_cons (n : Nat) (x : PV) (r : List PV) : lbs n (x :: r) = (x.lb n && lbs n r) := by rw [lbs]

def Cell.val : Cell → PV
  | .lst xs => .lst xs
  | .dct ks vs => .dct ks vs
  | .dki ks vs => .dki ks vs
def Cell.lb (n : Nat) : Cell → Bool
  | .lst xs => lbs n xs
  | .dct ks vs => lbs n ks && lbs n vs
  | .dki _ vs => lbs n vs
theorem Cell.lb_mono {n m : Nat} (q : n ≤ m) {c : Cell} (h : c.lb n = true) : c.lb m = true := by
  cases c with
  | lst xs => exact lbs_mono q h
  | dct ks vs =>
    have h : (lbs n ks && lbs n vs) = true := h
    rw [Bool.and_eq_true] at h
    show (lbs m ks && lbs m vs) = true
    rw [lbs_mono q h.1, lbs_mono q h.2]; rfl
  | dki ks vs => exact lbs_mono q (show lbs n vs = true from h)
theorem Cell.lb_val {n : Nat} {c : Cell} : c.val.lb n = c.lb n := by
  cases c with
  | lst xs => show (PV.lst xs).lb n = lbs n xs; rw [PV.lb]
  | dct ks vs => show (PV.dct ks vs).lb n = (lbs n ks && lbs n vs); rw [PV.lb]
  | dki ks vs => show (PV.dki ks vs).lb n = lbs n vs; rw [PV.lb]

/-! ### the store -/
structure Sto where
  nxt : Nat
  cs : Nat → Option Cell
  wf : ∀ l, nxt ≤ l → cs l = none
  wc : ∀ l c, cs l = some c → c.lb nxt = true

theorem Sto.ext' {a b : Sto} (h1 : a.nxt = b.nxt) (h2 : ∀ l, a.cs l = b.cs l) : a = b := by
  cases a; cases b
  simp only at h1 h2
  subst h1
  rename_i n c w u c' w' u'
  have e : c = c' := funext h2
  subst e
  rfl
def keepC (n : Nat) (c : Cell) : Option Cell := if c.lb n then some c else none
theorem keepC_pos {n : Nat} {c : Cell} (h : c.lb n = true) : keepC n c = some c := if_pos h
theorem keepC_some {n : Nat} {c d : Cell} (h : keepC n c = some d) : c.lb n = true ∧ d = c := by
  unfold keepC at h
  split at h
  · rename_i q; cases h; exact ⟨q, rfl⟩
  · cases h

def Sto.set (st : Sto) (l : Nat) (c : Cell) : Sto where
  nxt := st.nxt
  cs := fun j => if j = l then (st.cs l).bind (fun _ => keepC st.nxt c) else st.cs j
  wf := fun j h => by
    by_cases e : j = l
    · subst e; rw [if_pos rfl, st.wf j h]; rfl
    · rw [if_neg e]; exact st.wf j h
  wc := fun j d h => by
    by_cases e : j = l
    · rw [if_pos e] at h
      cases q : st.cs l with
      | none => rw [q] at h; cases h
      | some c0 => rw [q] at h; obtain ⟨h1, rfl⟩ := keepC_some h; exact h1
    · rw [if_neg e] at h; exact st.wc j d h
def Sto.alloc (st : Sto) (c : Cell) : Sto where
  nxt := st.nxt + 1
  cs := fun j => if j = st.nxt then keepC st.nxt c else st.cs j
  wf := fun j h => by
    have e : j ≠ st.nxt := by omega
    rw [if_neg e]; exact st.wf j (by omega)
  wc := fun j d h => by
    by_cases e : j = st.nxt
    · rw [if_pos e] at h
      obtain ⟨h1, rfl⟩ := keepC_some h
      exact Cell.lb_mono (Nat.le_succ _) h1
    · rw [if_neg e] at h; exact Cell.lb_mono (Nat.le_succ _) (st.wc j d h)
def Sto.restr (b : Nat) (st : Sto) : Sto where
  nxt := b
  cs := fun j => if j < b then (st.cs j).bind (keepC b) else none
  wf := fun j h => if_neg (by omega)
  wc := fun j d h => by
    by_cases e : j < b
    · rw [if_pos e] at h
      cases q : st.cs j with
      | none => rw [q] at h; cases h
      | some c0 => rw [q] at h; obtain ⟨h1, rfl⟩ := keepC_some (show keepC b c0 = some d from h); exact h1
    · rw [if_neg e] at h; cases h
def Sto.kill (l : Nat) (st : Sto) : Sto where
  nxt := st.nxt
  cs := fun j => if j = l then none else st.cs j
  wf := fun j h => by
    by_cases e : j = l
    · rw [if_pos e]
    · rw [if_neg e]; exact st.wf j h
  wc := fun j d h => by
    by_cases e : j = l
    · rw [if_pos e] at h; cases h
    · rw [if_neg e] at h; exact st.wc j d h
theorem Sto.kill_get {st : Sto} {l : Nat} : (st.kill l).cs l = none := if_pos rfl
theorem Sto.kill_ne {st : Sto} {l j : Nat} (h : j ≠ l) : (st.kill l).cs j = st.cs j := if_neg h
theorem Sto.set_get {st : Sto} {l : Nat} {c c0 : Cell} (h : st.cs l = some c0) (hc : c.lb st.nxt = true) : (st.set l c).cs l = some c := by
  show (if l = l then (st.cs l).bind (fun _ => keepC st.nxt c) else st.cs l) = some c
  rw [if_pos rfl, h]
  exact keepC_pos hc
theorem Sto.set_ne {st : Sto} {l j : Nat} {c : Cell} (h : j ≠ l) : (st.set l c).cs j = st.cs j := if_neg h
theorem Sto.alloc_get {st : Sto} {c : Cell} (hc : c.lb st.nxt = true) : (st.alloc c).cs st.nxt = some c := by
  show (if st.nxt = st.nxt then keepC st.nxt c else st.cs st.nxt) = some c
  rw [if_pos rfl]
  exact keepC_pos hc
theorem Sto.alloc_ne {st : Sto} {c : Cell} {j : Nat} (h : j ≠ st.nxt) : (st.alloc c).cs j = st.cs j := if_neg h
theorem Sto.lt_of {st : Sto} {l : Nat} {c : Cell} (h : st.cs l = some c) : l < st.nxt := by
  apply Nat.lt_of_not_le
  intro q
  rw [st.wf l q] at h
  cases h
theorem Sto.restr_get {st : Sto} {b l : Nat} {c : Cell} (h : (st.restr b).cs l = some c) : st.cs l = some c ∧ l < b ∧ c.lb b = true := by
  have h : (if l < b then (st.cs l).bind (keepC b) else none) = some c := h
  split at h
  · rename_i q
    cases e : st.cs l with
    | none => rw [e] at h; cases h
    | some c0 =>
      rw [e] at h
      obtain ⟨h1, rfl⟩ := keepC_some (show keepC b c0 = some c from h)
      exact ⟨rfl, q, h1⟩
  · cases h
theorem Sto.restr_at {st : Sto} {b l : Nat} {c : Cell} (h : st.cs l = some c) (q : l < b) (hc : c.lb b = true) : (st.restr b).cs l = some c := by
  show (if l < b then (st.cs l).bind (keepC b) else none) = some c
  rw [if_pos q, h]
  exact keepC_pos hc
theorem Sto.restr_self (st : Sto) : st.restr st.nxt = st := Sto.ext' rfl fun l => by
  show (if l < st.nxt then (st.cs l).bind (keepC st.nxt) else none) = st.cs l
  by_cases h : l < st.nxt
  · rw [if_pos h]
    cases e : st.cs l with
    | none => rfl
    | some c => exact keepC_pos (st.wc l c e)
  · rw [if_neg h, st.wf l (by omega)]
theorem Sto.restr_alloc {st : Sto} {c : Cell} {b : Nat} (h : b ≤ st.nxt) : (st.alloc c).restr b = st.restr b := Sto.ext' rfl fun l => by
  show (if l < b then ((st.alloc c).cs l).bind (keepC b) else none) = if l < b then (st.cs l).bind (keepC b) else none
  by_cases q : l < b
  · rw [Sto.alloc_ne (by omega)]
  · rw [if_neg q, if_neg q]
theorem Sto.restr_set_ge {st : Sto} {c : Cell} {b l : Nat} (h : b ≤ l) : (st.set l c).restr b = st.restr b := Sto.ext' rfl fun j => by
  show (if j < b then ((st.set l c).cs j).bind (keepC b) else none) = if j < b then (st.cs j).bind (keepC b) else none
  by_cases q : j < b
  · rw [Sto.set_ne (by omega)]
  · rw [if_neg q, if_neg q]
theorem Sto.restr_kill_ge {st : Sto} {b l : Nat} (h : b ≤ l) : (st.kill l).restr b = st.restr b := Sto.ext' rfl fun j => by
  show (if j < b then ((st.kill l).cs j).bind (keepC b) else none) = if j < b then (st.cs j).bind (keepC b) else none
  by_cases q : j < b
  · rw [Sto.kill_ne (by omega)]
  · rw [if_neg q, if_neg q]
theorem Sto.restr_set_lt {st : Sto} {c c0 : Cell} {b l : Nat} (h : l < b) (hb : b ≤ st.nxt) (h0 : st.cs l = some c0) (h0b : c0.lb b = true) (hc : c.lb b = true) : (st.set l c).restr b = (st.restr b).set l c := Sto.ext' rfl fun j => by
  by_cases e : j = l
  · subst e
    rw [Sto.restr_at (Sto.set_get h0 (Cell.lb_mono hb hc)) h hc, Sto.set_get (Sto.restr_at h0 h h0b) hc]
  · rw [Sto.set_ne e]
    show (if j < b then ((st.set l c).cs j).bind (keepC b) else none) = if j < b then (st.cs j).bind (keepC b) else none
    rw [Sto.set_ne e]
theorem Sto.set_set {st : Sto} {l : Nat} {c c' : Cell} (hc : c.lb st.nxt = true) : (st.set l c).set l c' = st.set l c' := Sto.ext' rfl fun j => by
  by_cases e : j = l
  · subst e
    cases q : st.cs j with
    | none =>
      have h : ∀ d : Cell, (st.set j d).cs j = none := fun d => by
        show (if j = j then (st.cs j).bind (fun _ => keepC st.nxt d) else st.cs j) = none
        rw [if_pos rfl, q]; rfl
      rw [h]
      show (if j = j then ((st.set j c).cs j).bind (fun _ => keepC st.nxt c') else (st.set j c).cs j) = none
      rw [if_pos rfl, h]; rfl
    | some c0 =>
      show (if j = j then ((st.set j c).cs j).bind (fun _ => keepC st.nxt c') else (st.set j c).cs j) = (if j = j then (st.cs j).bind (fun _ => keepC st.nxt c') else st.cs j)
      rw [if_pos rfl, if_pos rfl, Sto.set_get q hc, q]; rfl
  · rw [Sto.set_ne e, Sto.set_ne e, Sto.set_ne e]
theorem Sto.set_comm {st : Sto} {l k : Nat} {c d : Cell} (h : l ≠ k) : (st.set l c).set k d = (st.set k d).set l c := Sto.ext' rfl fun j => by
  have at' : ∀ (s : Sto) (x : Nat) (y : Cell), (s.set x y).cs x = (s.cs x).bind (fun _ => keepC s.nxt y) := fun s x y => if_pos rfl
  by_cases e : j = k
  · subst e
    rw [at', Sto.set_ne (Ne.symm h), Sto.set_ne (Ne.symm h), at']; rfl
  · rw [Sto.set_ne e]
    by_cases e2 : j = l
    · subst e2
      rw [at', at', Sto.set_ne h]; rfl
    · rw [Sto.set_ne e2, Sto.set_ne e2, Sto.set_ne e]
theorem Sto.set_self {st : Sto} {l : Nat} {c : Cell} (h : st.cs l = some c) : st.set l c = st := Sto.ext' rfl fun j => by
  by_cases e : j = l
  · subst e; rw [Sto.set_get h (st.wc j c h), h]
  · rw [Sto.set_ne e]
theorem Sto.set_nxt {st : Sto} {l : Nat} {c : Cell} : (st.set l c).nxt = st.nxt := rfl
theorem Sto.alloc_nxt {st : Sto} {c : Cell} : (st.alloc c).nxt = st.nxt + 1 := rfl
theorem Sto.restr_nxt {st : Sto} {b : Nat} : (st.restr b).nxt = b := rfl
theorem Sto.alloc_set {st : Sto} {c d : Cell} (hc : c.lb st.nxt = true) (hd : d.lb st.nxt = true) : (st.alloc c).set st.nxt d = st.alloc d := Sto.ext' rfl fun j => by
  by_cases e : j = st.nxt
  · subst e
    rw [Sto.set_get (Sto.alloc_get hc) (Cell.lb_mono (Nat.le_succ _) hd), Sto.alloc_get hd]
  · rw [Sto.set_ne e, Sto.alloc_ne e, Sto.alloc_ne e]

/-! ### what stands at the places is told -/
mutual
def PV.sub (f : Nat → Option PV) : PV → Option PV
  | .tup xs => (subs f xs).map .tup
  | .lst xs => (subs f xs).map .lst
  | .ro xs => (subs f xs).map .ro
  | .dct ks vs => match subs f ks, subs f vs with
    | some ks', some vs' => some (.dct ks' vs')
    | _, _ => none
  | .dki ks vs => (subs f vs).map (.dki ks)
  | .loc l => f l
  | .non => some .non
  | .bl x => some (.bl x)
  | .int x => some (.int x)
  | .str x => some (.str x)
def subs (f : Nat → Option PV) : List PV → Option (List PV)
  | [] => some []
  | x :: r => match x.sub f, subs f r with
    | some x', some r' => some (x' :: r')
    | _, _ => none
end
/-- a place from b on is told by what stands there, to a depth -/
def rsv (b : Nat) (cs : Nat → Option Cell) : Nat → Nat → Option PV
  | 0, l => if l < b then some (.loc l) else none
  | n + 1, l => if l < b then some (.loc l) else match cs l with
    | some c => c.val.sub (rsv b cs n)
    | none => none
theorem rsv_lt {b : Nat} {cs : Nat → Option Cell} {n l : Nat} (h : l < b) : rsv b cs n l = some (.loc l) := by
  cases n <;> exact if_pos h
theorem rsv_ge {b : Nat} {cs : Nat → Option Cell} {n l : Nat} {c : Cell} (h : b ≤ l) (hc : cs l = some c) : rsv b cs (n + 1) l = c.val.sub (rsv b cs n) := by
  show (if l < b then some (.loc l) else match cs l with | some c => c.val.sub (rsv b cs n) | none => none) = _
  rw [if_neg (by omega), hc]
mutual
theorem PV.sub_lb {b : Nat} {f : Nat → Option PV} (hf : ∀ l, l < b → f l = some (.loc l)) : ∀ {v : PV}, v.lb b = true → v.sub f = some v
  | .tup xs, h => by rw [PV.sub, subs_lb hf (by rw [PV.lb] at h; exact h)]; rfl
  | .lst xs, h => by rw [PV.sub, subs_lb hf (by rw [PV.lb] at h; exact h)]; rfl
  | .ro xs, h => by rw [PV.sub, subs_lb hf (by rw [PV.lb] at h; exact h)]; rfl
  | .dct ks vs, h => by
    rw [PV.lb, Bool.and_eq_true] at h
    rw [PV.sub, subs_lb hf h.1, subs_lb hf h.2]
  | .dki ks vs, h => by rw [PV.sub, subs_lb hf (by rw [PV.lb] at h; exact h)]; rfl
  | .loc l, h => by rw [PV.lb, decide_eq_true_eq] at h; rw [PV.sub, hf l h]
  | .non, _ => by rw [PV.sub]
  | .bl _, _ => by rw [PV.sub]
  | .int _, _ => by rw [PV.sub]
  | .str _, _ => by rw [PV.sub]
theorem subs_lb {b : Nat} {f : Nat → Option PV} (hf : ∀ l, l < b → f l = some (.loc l)) : ∀ {xs : List PV}, lbs b xs = true → subs f xs = some xs
  | [], _ => by rw [subs]
  | x :: r, h => by
    rw [lbs, Bool.and_eq_true] at h
    rw [subs, PV.sub_lb hf h.1, subs_lb hf h.2]
end
def PV.res (b : Nat) (cs : Nat → Option Cell) (v : PV) : Option PV := v.sub (rsv b cs 8)
theorem PV.res_lb {b : Nat} {cs : Nat → Option Cell} {v : PV} (h : v.lb b = true) : v.res b cs = some v := PV.sub_lb (fun _ q => rsv_lt q) h
theorem PV.res_loc {b l : Nat} {cs : Nat → Option Cell} {c : Cell} (h : b ≤ l) (hc : cs l = some c) (hb : c.lb b = true) : (PV.loc l).res b cs = some c.val := by
  unfold PV.res
  rw [PV.sub, rsv_ge h hc]
  exact PV.sub_lb (fun _ q => rsv_lt q) (by rw [Cell.lb_val]; exact hb)

/-! ### what pieces compute -/
abbrev Env := List (Option PV)
abbrev M (α : Type) := Sto → Option (α × Sto)
abbrev DE := Env → M PV
abbrev DT := Env → M Bool
abbrev DA := Env → M (List PV)
abbrev FSem := List PV → M PV
inductive Fl where
  | nx (e : Env) | rt (v : PV) | bk (e : Env) | ct (e : Env)
abbrev DS := Env → M Fl
/-- what a for walks: its items, and the place that must stand as it is -/
structure Its where
  items : List PV
  src : Option (Nat × Cell)
abbrev DI := Env → M Its

def mb {α β : Type} (m : Option (α × Sto)) (f : α → Sto → Option (β × Sto)) : Option (β × Sto) := match m with
  | some (a, st) => f a st
  | none => none
theorem mb_some {α β : Type} {a : α} {st : Sto} {f : α → Sto → Option (β × Sto)} : mb (some (a, st)) f = f a st := rfl
theorem mb_eq {α β : Type} {m : Option (α × Sto)} {f : α → Sto → Option (β × Sto)} {b : β} {st : Sto} (h : mb m f = some (b, st)) : ∃ a st1, m = some (a, st1) ∧ f a st1 = some (b, st) := by
  cases m with
  | none => cases h
  | some p => exact ⟨p.1, p.2, rfl, h⟩

def dVar (i : Nat) : DE := fun env st => match env[i]? with
  | some (some v) => some (v, st)
  | _ => none
def dCst (v : PV) : DE := fun _ st => some (v, st)
/-- a list or a dict that nobody changes any more -/
def frzL (v : PV) (st : Sto) : Option (PV × Sto) := match v with
  | .loc l => match st.cs l with
    | some c => some (c.val, st.kill l)
    | none => none
  | _ => none
def dFrz (i : Nat) : DE := fun env st => mb (dVar i env st) frzL
def dBin (f : PV → PV → M PV) (a b : DE) : DE := fun env st => mb (a env st) fun x st1 => mb (b env st1) fun y st2 => f x y st2
def dUn (f : PV → M PV) (a : DE) : DE := fun env st => mb (a env st) fun x st1 => f x st1
def aNil : DA := fun _ st => some ([], st)
def aCons (a : DE) (r : DA) : DA := fun env st => mb (a env st) fun x st1 => mb (r env st1) fun xs st2 => some (x :: xs, st2)
/-- a call of what is known by values -/
def dApp (f : FSem) (a : DA) : DE := fun env st => mb (a env st) fun xs st1 => f xs st1

def seqOf (st : Sto) : PV → Option (List PV)
  | .tup xs => some xs
  | .lst xs => some xs
  | .ro xs => some xs
  | .loc l => match st.cs l with
    | some (.lst xs) => some xs
    | _ => none
  | _ => none
/-- lists alone -/
def lstOf (st : Sto) : PV → Option (List PV)
  | .lst xs => some xs
  | .loc l => match st.cs l with
    | some (.lst xs) => some xs
    | _ => none
  | _ => none
/-! dicts: keys that are tuples of ints and None, or ints and texts -/
mutual
def NK : PV → Option NestedKey
  | .int i => some (.num i)
  | .non => some .none
  | .str x => some (.text x)
  | .tup xs => (NKs xs).map .tup
  | .bl _ => none
  | .lst _ => none
  | .ro _ => none
  | .dct _ _ => none
  | .dki _ _ => none
  | .loc _ => none
def NKs : List PV → Option (List NestedKey)
  | [] => some []
  | x :: r => match NK x, NKs r with
    | some k, some ks => some (k :: ks)
    | _, _ => none
end
mutual
def noText : NestedKey → Bool
  | .none => true
  | .num _ => true
  | .text _ => false
  | .tup ks => noTexts ks
def noTexts : List NestedKey → Bool
  | [] => true
  | k :: r => noText k && noTexts r
end
/-- a tuple that may be a key -/
def isTK : PV → Bool
  | .tup xs => match NK (.tup xs) with
    | some k => noText k && decide (k.depth ≤ 8)
    | none => false
  | _ => false
/-- an int or a text -/
def isFK : PV → Bool
  | .int _ => true
  | .str _ => true
  | _ => false
def keyEq (a b : PV) : Bool := match NK a, NK b with
  | some x, some y => decide (x = y)
  | _, _ => false
def dlook : List PV → List PV → PV → Option PV
  | k' :: ks, v :: vs, k => if keyEq k' k then some v else dlook ks vs k
  | _, _, _ => none
def dput : List PV → List PV → PV → PV → List PV × List PV
  | k' :: ks, v' :: vs, k, v => if keyEq k' k then (k' :: ks, v :: vs) else (k' :: (dput ks vs k v).1, v' :: (dput ks vs k v).2)
  | _, _, k, v => ([k], [v])
def goodK (ks : List PV) (k : PV) : Bool := ks.all isTK && isTK k
def dctOf (st : Sto) : PV → Option (List PV × List PV)
  | .dct ks vs => some (ks, vs)
  | .loc l => match st.cs l with
    | some (.dct ks vs) => some (ks, vs)
    | _ => none
  | _ => none
/-! dicts whose keys are ints -/
def dkiOf (st : Sto) : PV → Option (List Int × List PV)
  | .dki ks vs => some (ks, vs)
  | .loc l => match st.cs l with
    | some (.dki ks vs) => some (ks, vs)
    | _ => none
  | _ => none
def ilook : List Int → List PV → Int → Option PV
  | k' :: ks, v :: vs, k => if k' = k then some v else ilook ks vs k
  | _, _, _ => none
def iput (ks : List Int) (vs : List PV) (k : Int) (v : PV) : List Int × List PV :=
  if k ∈ ks then (ks, List.zipWith (fun a b => if a = k then v else b) ks vs) else (ks ++ [k], vs ++ [v])
/-- a new dict of ints -/
def mkI : M PV := fun st => some (.loc st.nxt, st.alloc (.dki [] []))
def dDctI : DE := fun _ st => mkI st
/-- a new dict -/
def mkD (m : Bool) (ks vs : List PV) : M PV := fun st =>
  if m then (if lbs st.nxt ks && lbs st.nxt vs then some (.loc st.nxt, st.alloc (.dct ks vs)) else none)
  else some (.dct ks vs, st)
def dDct0 (m : Bool) : DE := fun _ st => mkD m [] [] st
/-- a new list: m if it may change later -/
def mkL (m : Bool) (xs : List PV) : M PV := fun st =>
  if xs.length ≤ sizeLine then
    if m then (if lbs st.nxt xs then some (.loc st.nxt, st.alloc (.lst xs)) else none)
    else some (.lst xs, st)
  else none
def mkT (xs : List PV) : M PV := fun st => if xs.length ≤ sizeLine then some (.tup xs, st) else none
def dTup (a : DA) : DE := dApp mkT a
def dLst (m : Bool) (a : DA) : DE := dApp (mkL m) a

/-! operators -/
def opAdd (m : Bool) : PV → PV → M PV
  | .int a, .int b, st => some (.int (a + b), st)
  | .str a, .str b, st => if a.length + b.length ≤ sizeLine then some (.str (a ++ b), st) else none
  | .tup a, .tup b, st => if a.length + b.length ≤ sizeLine then some (.tup (a ++ b), st) else none
  | x, y, st => match lstOf st x, lstOf st y with
    | some a, some b => mkL m (a ++ b) st
    | _, _ => none
def opSub : PV → PV → M PV
  | .int a, .int b, st => some (.int (a - b), st)
  | _, _, _ => none
/-! bounds, opened by their lemmas alone -/
@[irreducible] def okMul (a b : Int) : Bool := decide ((-(2 ^ 64) < a ∧ a < 2 ^ 64) ∨ (-(2 ^ 64) < b ∧ b < 2 ^ 64))
theorem okMul_iff {a b : Int} : okMul a b = true ↔ ((-(2 ^ 64) < a ∧ a < 2 ^ 64) ∨ (-(2 ^ 64) < b ∧ b < 2 ^ 64)) := by unfold okMul; exact decide_eq_true_iff
@[irreducible] def okMod (b : Int) : Bool := decide (0 < b)
theorem okMod_iff {b : Int} : okMod b = true ↔ 0 < b := by unfold okMod; exact decide_eq_true_iff
@[irreducible] def okDiv (b : Int) : Bool := decide (0 < b ∧ b < 1073741824)
theorem okDiv_iff {b : Int} : okDiv b = true ↔ (0 < b ∧ b < 1073741824) := by unfold okDiv; exact decide_eq_true_iff
@[irreducible] def okPow (a b : Int) : Bool := decide (0 ≤ b ∧ b ≤ 1000000 ∧ a.natAbs < 2 ^ 64)
theorem okPow_iff {a b : Int} : okPow a b = true ↔ (0 ≤ b ∧ b ≤ 1000000 ∧ a.natAbs < 2 ^ 64) := by unfold okPow; exact decide_eq_true_iff
@[irreducible] def okRng (a : Int) : Bool := decide (-(2 ^ 62) ≤ a ∧ a < 2 ^ 62)
theorem okRng_iff {a : Int} : okRng a = true ↔ (-(2 ^ 62) ≤ a ∧ a < 2 ^ 62) := by unfold okRng; exact decide_eq_true_iff
@[irreducible] def okLen (n : Nat) : Bool := decide (n ≤ sizeLine)
theorem okLen_iff {n : Nat} : okLen n = true ↔ n ≤ sizeLine := by unfold okLen; exact decide_eq_true_iff
@[irreducible] def okRep (n : Nat) (k : Int) : Bool := decide (0 < n ∧ n ≤ 1000 ∧ 0 ≤ k ∧ k ≤ 1000)
theorem okRep_iff {n : Nat} {k : Int} : okRep n k = true ↔ (0 < n ∧ n ≤ 1000 ∧ 0 ≤ k ∧ k ≤ 1000) := by unfold okRep; exact decide_eq_true_iff
def opMul : PV → PV → M PV
  | .int a, .int b, st => if okMul a b then some (.int (a * b), st) else none
  | .tup xs, .int k, st => if okRep xs.length k then some (.tup (List.replicate k.toNat xs).flatten, st) else none
  | _, _, _ => none
def opMod : PV → PV → M PV
  | .int a, .int b, st => if okMod b then some (.int (a % b), st) else none
  | _, _, _ => none
def opDiv : PV → PV → M PV
  | .int a, .int b, st => if okDiv b then some (.int (a / b), st) else none
  | _, _, _ => none
def opPow : PV → PV → M PV
  | .int a, .int b, st => if okPow a b then some (.int (a ^ b.toNat), st) else none
  | _, _, _ => none
def opNeg : PV → M PV
  | .int a, st => some (.int (-a), st)
  | _, _ => none
def opNot : PV → M PV
  | .bl a, st => some (.bl (!a), st)
  | _, _ => none

/-! comparisons -/
def cmpI (p : Int → Int → Bool) : PV → PV → M PV
  | .int a, .int b, st => some (.bl (p a b), st)
  | _, _, _ => none
mutual
/-- as the library's data -/
def PV.toD (cs : Nat → Option Cell) : PV → Option PyData
  | .non => some .none
  | .bl b => some (.bool b)
  | .int i => some (.int i)
  | .str x => some (.str x)
  | .tup xs => (toDs cs xs).map .tuple
  | .lst xs => (toDs cs xs).map .list
  | .ro xs => (toDs cs xs).map .list
  | .dct _ _ => none
  | .dki _ _ => none
  | .loc _ => none
def toDs (cs : Nat → Option Cell) : List PV → Option (List PyData)
  | [] => some []
  | x :: r => match x.toD cs, toDs cs r with
    | some d, some ds => some (d :: ds)
    | _, _ => none
end
/-- a place is told by its items -/
def derf (st : Sto) : PV → PV
  | .loc l => match st.cs l with
    | some c => c.val
    | none => .loc l
  | v => v
def cmpEq (neg : Bool) : PV → PV → M PV := fun x y st =>
  match (derf st x).toD st.cs, (derf st y).toD st.cs with
  | some d, some e => if SeqAt.shaped d && SeqAt.shaped e then some (.bl (PyData.eqv d e != neg), st) else none
  | _, _ => none
def flatP : PV → Bool
  | .non => true
  | .bl _ => true
  | .int _ => true
  | .str _ => true
  | _ => false
def eqP : PV → PV → Bool
  | .non, .non => true
  | .bl a, .bl b => a == b
  | .bl a, .int b => (if a then 1 else 0) == b
  | .int a, .bl b => a == (if b then 1 else 0)
  | .int a, .int b => a == b
  | .str a, .str b => a == b
  | _, _ => false
def cmpInS (neg : Bool) : PV → PV → M PV := fun x y st =>
  match seqOf st y with
  | some ys => if flatP x && ys.all flatP then some (.bl (ys.any (fun z => eqP z x) != neg), st) else
    match lstOf st y with
    | some ys => match (derf st x).toD st.cs, toDs st.cs ys with
      | some d, some ds => if SeqAt.shaped d && SeqAt.shaped (.list ds) then some (.bl ((ds.any fun z => PyData.eqv z d) != neg), st) else none
      | _, _ => none
    | none => none
  | none => none
def cmpIn (neg : Bool) : PV → PV → M PV := fun x y st => match dkiOf st y with
  | some (ks, vs) => match x with
    | .int i => some (.bl ((ilook ks vs i).isSome != neg), st)
    | _ => none
  | none => match dctOf st y with
    | some (ks, vs) => if goodK ks x then some (.bl ((dlook ks vs x).isSome != neg), st) else none
    | none => cmpInS neg x y st
def isNonP : PV → Bool
  | .non => true
  | _ => false
def cmpIsN (neg : Bool) : PV → M PV := fun x st => some (.bl (isNonP x != neg), st)

/-! subscripts -/
def opIx : PV → PV → M PV := fun x y st => match dkiOf st x with
  | some (ks, vs) => match y with
    | .int i => (ilook ks vs i).map fun v => (v, st)
    | _ => none
  | none => match dctOf st x with
    | some (ks, vs) => if goodK ks y then (dlook ks vs y).map fun v => (v, st) else none
    | none => match y with
      | .int i => match seqOf st x with
        | some xs => (atI xs i).map fun v => (v, st)
        | none => none
      | _ => none
def intO : PV → Option (Option Int)
  | .int i => some (some i)
  | _ => none
def cutP (xs : List PV) (lo hi : Option Int) : List PV := (xs.drop (HT.sIx xs.length 0 lo)).take (HT.sIx xs.length xs.length hi - HT.sIx xs.length 0 lo)
abbrev DO := Env → M (Option Int)
def oNone : DO := fun _ st => some (none, st)
def oSome (a : DE) : DO := fun env st => mb (a env st) fun x st1 => match x with
  | .int i => some (some i, st1)
  | _ => none
def dSl (m : Bool) (a : DE) (lo hi : DO) : DE := fun env st => mb (a env st) fun x st1 => mb (lo env st1) fun l st2 => mb (hi env st2) fun h st3 => match x with
  | .tup xs => some (.tup (cutP xs l h), st3)
  | x => match lstOf st3 x with
    | some xs => mkL m (cutP xs l h) st3
    | none => none

/-! calls of built-ins -/
def bLen : FSem
  | [.str x], st => if x.length ≤ sizeLine then some (.int x.length, st) else none
  | [x], st => match seqOf st x with
    | some xs => some (.int xs.length, st)
    | none => match dctOf st x with
      | some (ks, _) => some (.int ks.length, st)
      | none => none
  | _, _ => none
def bAbs : FSem
  | [.int i], st => some (.int (if i < 0 then -i else i), st)
  | _, _ => none
def bInt : FSem
  | [.int i], st => some (.int i, st)
  | [.bl k], st => some (.int (if k then 1 else 0), st)
  | _, _ => none
def maxL : List Int → Int
  | [] => 0
  | [x] => x
  | x :: r => max x (maxL r)
def minL : List Int → Int
  | [] => 0
  | [x] => x
  | x :: r => min x (minL r)
def intsOf : List PV → Option (List Int)
  | [] => some []
  | .int i :: r => (intsOf r).map (i :: ·)
  | _ => none
def bMax : FSem
  | [.int i, .int j], st => some (.int (if j > i then j else i), st)
  | [.int i, .int j, .int k], st => some (.int (if j > i then (if k > j then k else j) else (if k > i then k else i)), st)
  | [x], st => match lstOf st x with
    | some xs => match intsOf xs with
      | some (i :: r) => some (.int (maxL (i :: r)), st)
      | _ => none
    | none => none
  | _, _ => none
def bMin : FSem
  | [.int i, .int j], st => some (.int (if j < i then j else i), st)
  | [.int i, .int j, .int k], st => some (.int (if j < i then (if k < j then k else j) else (if k < i then k else i)), st)
  | [x], st => match lstOf st x with
    | some xs => match intsOf xs with
      | some (i :: r) => some (.int (minL (i :: r)), st)
      | _ => none
    | none => none
  | _, _ => none
def bTuple : FSem
  | [.tup xs], st => some (.tup xs, st)
  | [x], st => match lstOf st x with
    | some xs => mkT xs st
    | none => none
  | _, _ => none
def bList (m : Bool) : FSem
  | [x], st => match seqOf st x with
    | some xs => mkL m xs st
    | none => none
  | _, _ => none
def sortI (l : List Int) : List Int := l.mergeSort (fun a b => decide (a ≤ b))
/-- x < y: ints, or data that are alike -/
def cmpLt : PV → PV → M PV
  | .int a, .int b, st => some (.bl (decide (a < b)), st)
  | .tup xs, .tup ys, st => match (PV.tup xs).toD st.cs, (PV.tup ys).toD st.cs with
    | some d, some e => if PySem.W.alike d e && decide (min d.depth e.depth ≤ 60) then some (.bl (PySem.W.dataLt d e), st) else none
    | _, _ => none
  | _, _, _ => none
/-- tuples of ints: their order, without the doubles -/
def lexLe (a b : List Int) : Bool := !HT.lexLt b a
def sortT (ks : List (List Int)) : List (List Int) := ks.mergeSort lexLe
def uniqT : List (List Int) → List (List Int)
  | [] => []
  | k :: r => if k ∈ r then uniqT r else k :: uniqT r
def tupsOf : List PV → Option (List (List Int))
  | [] => some []
  | .tup xs :: r => match intsOf xs, tupsOf r with
    | some ns, some ks => some (ns :: ks)
    | _, _ => none
  | _ => none
def tupP (k : List Int) : PV := .tup (k.map .int)
@[irreducible] def bTup : Int := 1000000000000
open Classical in
@[irreducible] noncomputable def okTs (ks : List (List Int)) : Bool := decide (ks.length < 64 ∧ ∃ d, 1 ≤ d ∧ ∀ k ∈ ks, k.length = d ∧ TS.Bd bTup k)
open Classical in
theorem okTs_iff {ks : List (List Int)} : okTs ks = true ↔ (ks.length < 64 ∧ ∃ d, 1 ≤ d ∧ ∀ k ∈ ks, k.length = d ∧ TS.Bd bTup k) := by unfold okTs; exact decide_eq_true_iff
/-- the order of data that are alike -/
def leP (a b : PV) : Bool := match a.toD (fun _ => none), b.toD (fun _ => none) with
  | some x, some y => !PySem.W.dataLt y x
  | _, _ => true
open Classical in
@[irreducible] noncomputable def okSort (ds : List PyData) : Bool := decide (PySem.W.AllAlike ds ∧ PySem.W.Sortable ds ∧ ds.length ≤ sizeLine ∧ ∀ d ∈ ds, d.depth ≤ 30)
open Classical in
theorem okSort_iff {ds : List PyData} : okSort ds = true ↔ (PySem.W.AllAlike ds ∧ PySem.W.Sortable ds ∧ ds.length ≤ sizeLine ∧ ∀ d ∈ ds, d.depth ≤ 30) := by unfold okSort; exact decide_eq_true_iff
/-- what list(x), sorted(x) read -/
def colOf (st : Sto) (x : PV) : Option (List PV) := match lstOf st x with
  | some xs => some xs
  | none => match dctOf st x with
    | some (ks, _) => some ks
    | none => none
noncomputable def sortGo (m : Bool) (xs : List PV) : M PV := fun st => match toDs (fun _ => none) xs with
  | some ds => if okSort ds then mkL m (xs.mergeSort leP) st else none
  | none => none
noncomputable def bSorted (m : Bool) : FSem
  | [x], st => match lstOf st x with
    | some xs => sortGo m xs st
    | none => match dctOf st x with
      | some (ks, _) => sortGo m ks st
      | none => match x with
        | .tup xs => sortGo m xs st
        | _ => none
  | _, _ => none
def bSum : FSem
  | [x], st => match lstOf st x with
    | some xs => match intsOf xs with
      | some ns => some (.int ns.sum, st)
      | none => none
    | none => none
  | _, _ => none
/-- sorted(set(x)) -/
noncomputable def bSortedSet (m : Bool) : FSem
  | [x], st => match lstOf st x with
    | some xs => match tupsOf xs with
      | some ks => if okTs ks then mkL m ((sortT (uniqT ks)).map tupP) st else none
      | none => none
    | none => none
  | _, _ => none
inductive BTy where
  | int | bool | str | list | tuple | dict
  deriving DecidableEq
def BTy.name : BTy → Str
  | .int => "int" | .bool => "bool" | .str => "str" | .list => "list" | .tuple => "tuple" | .dict => "dict"
def BTy.nameS : BTy → String
  | .int => "int" | .bool => "bool" | .str => "str" | .list => "list" | .tuple => "tuple" | .dict => "dict"
def isTy (t : BTy) (st : Sto) : PV → Option Bool
  | .non => some false
  | .bl _ => some (t == .bool || t == .int)
  | .int _ => some (t == .int)
  | .str _ => some (t == .str)
  | .tup _ => some (t == .tuple)
  | .lst _ => some (t == .list)
  | .ro _ => none
  | .dct _ _ => some (t == .dict)
  | .dki _ _ => none
  | .loc l => match st.cs l with
    | some (.lst _) => some (t == .list)
    | some (.dct _ _) => some (t == .dict)
    | _ => none
def bIsi (t : BTy) : PV → M PV := fun x st => (isTy t st x).map fun b => (.bl b, st)

/-! methods of lists -/
def asL (x : PV) (st : Sto) : Option (Nat × Sto) := match x with
  | .loc l => match st.cs l with
    | some (.lst _) => some (l, st)
    | _ => none
  | _ => none
theorem asL_eq {x : PV} {st st' : Sto} {l : Nat} (h : asL x st = some (l, st')) : x = .loc l ∧ st = st' ∧ ∃ xs, st.cs l = some (.lst xs) := by
  unfold asL at h
  split at h
  · split at h
    · rename_i hl
      cases h
      exact ⟨rfl, rfl, _, hl⟩
    · cases h
  · cases h
def dMetL (f : Nat → FSem) (o : DE) (a : DA) : DE := fun env st => mb (o env st) fun x st1 => mb (asL x st1) fun l st2 => mb (a env st2) fun xs st3 => f l xs st3
def mAppend (l : Nat) : FSem
  | [y], st => match st.cs l with
    | some (.lst xs) => if xs.length < sizeLine && y.lb st.nxt then some (.non, st.set l (.lst (xs ++ [y]))) else none
    | _ => none
  | _, _ => none
def mPop (l : Nat) : FSem
  | [], st => match st.cs l with
    | some (.lst xs) => match xs[xs.length - 1]? with
      | some y => some (y, st.set l (.lst xs.dropLast))
      | none => none
    | _ => none
  | _, _ => none
def mPopAt (l : Nat) : FSem
  | [.int i], st => match st.cs l with
    | some (.lst xs) => match seqIndex? i xs.length with
      | some k => match xs[k]? with
        | some y => if okRng i then some (y, st.set l (.lst (xs.eraseIdx k))) else none
        | none => none
      | none => none
    | _ => none
  | _, _ => none
def mInsert (l : Nat) : FSem
  | [.int i, y], st => match st.cs l with
    | some (.lst xs) => if xs.length < sizeLine && y.lb st.nxt && okRng i && decide (0 ≤ i) then some (.non, st.set l (.lst (xs.take i.toNat ++ [y] ++ xs.drop i.toNat))) else none
    | _ => none
  | _, _ => none
def mExtend (l : Nat) : FSem
  | [y], st => match st.cs l with
    | some (.lst xs) => match lstOf st y with
      | some zs => if decide (xs.length + zs.length ≤ sizeLine) && lbs st.nxt zs then some (.non, st.set l (.lst (xs ++ zs))) else none
      | none => none
    | _ => none
  | _, _ => none
def mReverse (l : Nat) : FSem
  | [], st => match st.cs l with
    | some (.lst xs) => some (.non, st.set l (.lst xs.reverse))
    | _ => none
  | _, _ => none

/-- d.get(k, v) -/
@[irreducible] def dGet2 (o k v : DE) : DE := fun env st => mb (o env st) fun x st1 => match dctOf st1 x with
  | none => none
  | some _ => mb (k env st1) fun y st2 => mb (v env st2) fun z st3 => match dctOf st3 x with
    | some (ks, vs) => if goodK ks y then some ((dlook ks vs y).getD z, st3) else none
    | none => none
/-- d.get(k), d a dict of ints -/
@[irreducible] def dGet1 (o k : DE) : DE := fun env st => mb (o env st) fun x st1 => match dkiOf st1 x with
  | none => none
  | some _ => mb (k env st1) fun y st2 => match y with
    | .int i => match dkiOf st2 x with
      | some (ks, vs) => some ((ilook ks vs i).getD .non, st2)
      | none => none
    | _ => none
/-- any(xs) -/
def blsOf : List PV → Option (List Bool)
  | [] => some []
  | .bl b :: r => (blsOf r).map (b :: ·)
  | _ => none
def bAny : FSem
  | [x], st => match lstOf st x with
    | some xs => match blsOf xs with
      | some bs => some (.bl (bs.any id), st)
      | none => none
    | none => none
  | _, _ => none
/-- x[::-1], x a tuple -/
def dRvT (a : DE) : DE := fun env st => mb (a env st) fun x st1 => match x with
  | .tup xs => some (.tup xs.reverse, st1)
  | _ => none
/-! calls of the text's own defs -/
/-- behind a def: what it made and does not hand back is dropped -/
def fin (b : Nat) (v : PV) (st : Sto) : Option (PV × Sto) := match v with
  | .loc l => if l < b then some (.loc l, st.restr b) else match st.cs l with
    | some c => if c.lb b then some (.loc b, (st.restr b).alloc c) else none
    | none => none
  | v => (v.res b st.cs).map fun v' => (v', st.restr b)
def settle (b : Nat) (v : PV) (st : Sto) : Option (PV × Sto) := (v.res b st.cs).map fun v' => (v', st.restr b)
def dCall (f : FSem) (adopt : Bool) (a : DA) : DE := fun env st => mb (a env st) fun xs st1 => mb (f xs st1) fun v st2 =>
  if adopt then some (v, st2) else settle st1.nxt v st2
/-- a def: its body over its slots -/
def runF (n : Nat) (np : Nat) (d : DS) : FSem := fun args st =>
  if args.length = np then
    match d (args.map some ++ List.replicate (n - args.length) none) st with
    | some (.rt v, st1) => fin st.nxt v st1
    | some (.nx _, st1) => fin st.nxt .non st1
    | _ => none
  else none

/-- .. all that it made stays -/
def runK (n : Nat) (np : Nat) (d : DS) : FSem := fun args st =>
  if args.length = np then
    match d (args.map some ++ List.replicate (n - args.length) none) st with
    | some (.rt v, st1) => some (v, st1)
    | some (.nx _, st1) => some (.non, st1)
    | _ => none
  else none

/-! tests -/
def asB (x : PV) (st : Sto) : Option (Bool × Sto) := match x with
  | .bl b => some (b, st)
  | _ => none
theorem asB_eq {x : PV} {st st' : Sto} {b : Bool} (h : asB x st = some (b, st')) : x = .bl b ∧ st = st' := by
  unfold asB at h
  split at h
  · cases h; exact ⟨rfl, rfl⟩
  · cases h
theorem asB_bl {b : Bool} {st : Sto} : asB (.bl b) st = some (b, st) := rfl
def tVal (a : DE) : DT := fun env st => mb (a env st) asB
/-- True, False, or a list -/
def asT (x : PV) (st : Sto) : Option (Bool × Sto) := match x with
  | .bl b => some (b, st)
  | x => match lstOf st x with
    | some xs => some (!xs.isEmpty, st)
    | none => none
def tTru (a : DE) : DT := fun env st => mb (a env st) asT
def tAnd (a b : DT) : DT := fun env st => mb (a env st) fun x st1 => if x then b env st1 else some (false, st1)
def tOr (a b : DT) : DT := fun env st => mb (a env st) fun x st1 => if x then some (true, st1) else b env st1
def tNot (a : DT) : DT := fun env st => mb (a env st) fun x st1 => some (!x, st1)
def dAnd (a b : DE) : DE := fun env st => mb (a env st) fun x st1 => mb (asB x st1) fun k st2 => if k then b env st2 else some (.bl false, st2)
def dOr (a b : DE) : DE := fun env st => mb (a env st) fun x st1 => mb (asB x st1) fun k st2 => if k then some (.bl true, st2) else b env st2
def dIte (t : DT) (a b : DE) : DE := fun env st => mb (t env st) fun x st1 => if x then a env st1 else b env st1
def dChain (f g : PV → PV → M PV) (a b c : DE) : DE := fun env st => mb (a env st) fun x st1 => mb (b env st1) fun y st2 => mb (f x y st2) fun r st3 => mb (asB r st3) fun k st4 =>
  if k then mb (c env st4) fun z st5 => g y z st5 else some (.bl false, st4)

/-! what is walked -/
def itsOf (x : PV) (st : Sto) : Option (Its × Sto) := match x with
  | .lst xs => some (⟨xs, none⟩, st)
  | .tup xs => some (⟨xs, none⟩, st)
  | .dct ks _ => some (⟨ks, none⟩, st)
  | .loc l => match st.cs l with
    | some (.lst xs) => some (⟨xs, some (l, .lst xs)⟩, st)
    | _ => none
  | _ => none
def iSeq (a : DE) : DI := fun env st => mb (a env st) itsOf
/-- x.items(), x a dict that nobody changes -/
def itsItems (x : PV) (st : Sto) : Option (Its × Sto) := match x with
  | .dct ks vs => some (⟨List.zipWith (fun k v => PV.tup [k, v]) ks vs, none⟩, st)
  | _ => none
def iItems (a : DE) : DI := fun env st => mb (a env st) itsItems
/-- enumerate(x) -/
def numb : Nat → List PV → List PV
  | _, [] => []
  | k, x :: r => .tup [.int (k : Int), x] :: numb (k + 1) r
def itsEnum (x : PV) (st : Sto) : Option (Its × Sto) := match x with
  | .lst xs => some (⟨numb 0 xs, none⟩, st)
  | .tup xs => some (⟨numb 0 xs, none⟩, st)
  | .loc l => match st.cs l with
    | some (.lst xs) => some (⟨numb 0 xs, some (l, .lst xs)⟩, st)
    | _ => none
  | _ => none
def iEnumP (a : DE) : DI := fun env st => mb (a env st) itsEnum
/-- reversed(x), x a list that nobody changes -/
def itsRev (x : PV) (st : Sto) : Option (Its × Sto) := match x with
  | .lst xs => some (⟨xs.reverse, none⟩, st)
  | _ => none
def iRev (a : DE) : DI := fun env st => mb (a env st) itsRev
def rng (lo hi : Int) : List PV := (List.range (hi - lo).toNat).map fun (k : Nat) => PV.int (lo + (k : Int))
def asI (x : PV) (st : Sto) : Option (Int × Sto) := match x with
  | .int n => some (n, st)
  | _ => none
theorem asI_eq {x : PV} {st st' : Sto} {n : Int} (h : asI x st = some (n, st')) : x = .int n ∧ st = st' := by
  unfold asI at h
  split at h
  · cases h; exact ⟨rfl, rfl⟩
  · cases h
def iRng1 (a : DE) : DI := fun env st => mb (a env st) fun x st1 => mb (asI x st1) fun n st2 => if okRng n then some (⟨rng 0 n, none⟩, st2) else none
def iRng2 (a b : DE) : DI := fun env st => mb (a env st) fun x st1 => mb (b env st1) fun y st2 => mb (asI x st2) fun i st3 => mb (asI y st3) fun j st4 => if okRng i && okRng j then some (⟨rng i j, none⟩, st4) else none
def Its.ok (its : Its) (st : Sto) : Prop := match its.src with
  | none => True
  | some (l, c) => st.cs l = some c
theorem itsOf_lst {st : Sto} {v : PV} {xs : List PV} (h : lstOf st v = some xs) : ∃ src, itsOf v st = some (⟨xs, src⟩, st) ∧ ∀ s : Sto, (∀ l, v = .loc l → s.cs l = st.cs l) → (Its.mk xs src).ok s := by
  unfold lstOf at h
  split at h
  · cases h; exact ⟨none, rfl, fun _ _ => trivial⟩
  · rename_i l
    split at h
    · rename_i ys hl
      cases h
      refine ⟨some (l, .lst xs), ?_, fun s k => ?_⟩
      · show (match st.cs l with | some (.lst xs) => some (Its.mk xs (some (l, .lst xs)), st) | _ => none) = _
        rw [hl]
      · show s.cs l = _
        rw [k l rfl, hl]
    · cases h
  · cases h

/-! targets -/
abbrev DG := PV → Env → M Env
def gName (i : Nat) : DG := fun v env st => some (env.set i (some v), st)
def gList : List DG → List PV → Env → M Env
  | [], [], env, st => some (env, st)
  | g :: gs, v :: vs, env, st => mb (g v env st) fun e1 s1 => gList gs vs e1 s1
  | _, _, _, _ => none
def gTup (gs : List DG) : DG := fun v env st => match v with
  | .tup xs => gList gs xs env st
  | _ => none
def setL : PV → PV → PV → Sto → Option Sto
  | .loc l, y, v, st => match st.cs l with
    | some (.lst xs) => match y with
      | .int i => match ixN xs.length i with
        | some j => if v.lb st.nxt then some (st.set l (.lst (xs.set j v))) else none
        | none => none
      | _ => none
    | some (.dct ks vs) => if goodK ks y && v.lb st.nxt && decide (ks.length < sizeLine) then some (st.set l (.dct (dput ks vs y v).1 (dput ks vs y v).2)) else none
    | some (.dki ks vs) => match y with
      | .int i => if v.lb st.nxt && okLen (ks.length + 1) then some (st.set l (.dki (iput ks vs i v).1 (iput ks vs i v).2)) else none
      | _ => none
    | none => none
  | _, _, _, _ => none
/-- o[i] = v -/
def gSub (o i : DE) : DG := fun v env st => mb (o env st) fun x st1 => mb (i env st1) fun y st2 => (setL x y v st2).map fun s => (env, s)

/-! comprehensions -/
def wipeE (env : Env) : List Nat → Env
  | [] => env
  | v :: vs => (wipeE env vs).set v none
open Classical in
noncomputable def lcGo (its : Its) (g : DG) (t : DT) (e : DE) (env : Env) : List PV → Sto → Option (List PV × Sto)
  | [], st => if its.ok st then some ([], st) else none
  | x :: r, st => if its.ok st then
      mb (g x env st) fun env1 st1 => mb (t env1 st1) fun b st2 =>
        if b then mb (e env1 st2) fun y st3 => mb (lcGo its g t e env r st3) fun ys st4 => some (y :: ys, st4)
        else lcGo its g t e env r st2
    else none
noncomputable def dLc (m : Bool) (vs : List Nat) (i : DI) (g : DG) (t : DT) (e : DE) : DE := fun env st =>
  mb (i env st) fun its st1 => mb (lcGo its g t e (wipeE env vs) its.items st1) fun ys st2 => mkL m ys st2
def tYes : DT := fun _ st => some (true, st)

/-! statements -/
def sPass : DS := fun env st => some (.nx env, st)
def sBreak : DS := fun env st => some (.bk env, st)
def sCont : DS := fun env st => some (.ct env, st)
def sSeq (a b : DS) : DS := fun env st => mb (a env st) fun f st1 => match f with
  | .nx e => b e st1
  | f => some (f, st1)
def sAsg (a : DE) (g : DG) : DS := fun env st => mb (a env st) fun x st1 => mb (g x env st1) fun e st2 => some (.nx e, st2)
def sAug (f : PV → PV → M PV) (i : Nat) (a : DE) : DS := fun env st => match env[i]? with
  | some (some x) => mb (a env st) fun y st1 => mb (f x y st1) fun z st2 => some (.nx (env.set i (some z)), st2)
  | _ => none
def sExpr (a : DE) : DS := fun env st => mb (a env st) fun _ st1 => some (.nx env, st1)
def sRet (a : DE) : DS := fun env st => mb (a env st) fun x st1 => some (.rt x, st1)
def sRetN : DS := fun _ st => some (.rt .non, st)
def sIf (t : DT) (a b : DS) : DS := fun env st => mb (t env st) fun x st1 => if x then a env st1 else b env st1
open Classical in
noncomputable def forGo (its : Its) (g : DG) (d : DS) : List PV → Env → Sto → Option (Fl × Sto)
  | [], env, st => if its.ok st then some (.nx env, st) else none
  | x :: r, env, st => if its.ok st then
      mb (g x env st) fun env1 st1 => mb (d env1 st1) fun f st2 => match f with
        | .nx e => forGo its g d r e st2
        | .ct e => forGo its g d r e st2
        | .bk e => some (.nx e, st2)
        | .rt v => some (.rt v, st2)
    else none
noncomputable def sFor (i : DI) (g : DG) (d : DS) : DS := fun env st => mb (i env st) fun its st1 => forGo its g d its.items env st1
def whGo (t : DT) (d : DS) : Nat → Env → Sto → Option (Fl × Sto)
  | 0, _, _ => none
  | n + 1, env, st => mb (t env st) fun b st1 => if b then mb (d env st1) fun f st2 => match f with
        | .nx e => whGo t d n e st2
        | .ct e => whGo t d n e st2
        | .bk e => some (.nx e, st2)
        | .rt v => some (.rt v, st2)
      else some (.nx env, st1)
def sWhile (t : DT) (d : DS) : DS := fun env st => whGo t d 100000 env st
end DL

/-! DL1: how the values of DL0 lie in a heap; worlds and their steps. -/
namespace DL
open PySem PySem.Spec PyProof.Rows L2

/-- a dict's object, by itself -/
def dO (a : Addr) (ob : Obj) : HO := .ext fun h => h.get? a = some ob
/-- its entries -/
def EsR : List PV → List V → List V → List DictEntry → Prop
  | [], kws, vws, es => kws = [] ∧ vws = [] ∧ es = []
  | k :: ks, kws, vws, es => ∃ a as b bs e r, kws = a :: as ∧ vws = b :: bs ∧ es = e :: r ∧ (∃ nk, NK k = some nk ∧ isTK k = true ∧ ∀ w : World, e.hash = nk.hash w) ∧ RelV a e.key ∧ RelV b e.val ∧ EsR ks as bs r
def DObj (a : Addr) (ks : List PV) (kws vws : List V) (ob : Obj) : Prop :=
  ob.ExactDict ∧ (∃ es ep, ob.data = .dict es ep ∧ EsR ks kws vws es.toList) ∧ (a == sysModules) = false ∧ ks.length ≤ sizeLine ∧ (ks.map NK).Nodup
theorem isTK_nk {k : PV} (h : isTK k = true) : ∃ nk, NK k = some nk ∧ noText nk = true ∧ nk.depth ≤ 8 := by
  cases k with
  | tup xs =>
    have h : (match NK (.tup xs) with | some k => noText k && decide (k.depth ≤ 8) | none => false) = true := h
    cases e : NK (.tup xs) with
    | none => rw [e] at h; cases h
    | some nk =>
      rw [e] at h
      have h : (noText nk && decide (nk.depth ≤ 8)) = true := h
      rw [Bool.and_eq_true, decide_eq_true_iff] at h
      exact ⟨nk, rfl, h.1, h.2⟩
  | _ => cases h
mutual
theorem nk_lb : ∀ {x : PV} {k : NestedKey}, NK x = some k → x.lb 0 = true
  | .int _, _, _ => by rw [PV.lb]
  | .non, _, _ => by rw [PV.lb]
  | .str _, _, _ => by rw [PV.lb]
  | .tup xs, _, h => by
    rw [NK] at h
    cases e : NKs xs with
    | none => rw [e] at h; cases h
    | some l => rw [PV.lb]; exact nks_lb e
  | .bl _, _, h => by rw [NK] at h; cases h
  | .lst _, _, h => by rw [NK] at h; cases h
  | .ro _, _, h => by rw [NK] at h; cases h
  | .dct _ _, _, h => by rw [NK] at h; cases h
  | .dki _ _, _, h => by rw [NK] at h; cases h
  | .loc _, _, h => by rw [NK] at h; cases h
theorem nks_lb : ∀ {xs : List PV} {ks : List NestedKey}, NKs xs = some ks → lbs 0 xs = true
  | [], _, _ => by rw [lbs]
  | x :: r, _, h => by
    rw [NKs] at h
    cases e : NK x with
    | none => rw [e] at h; cases h
    | some k =>
      cases e2 : NKs r with
      | none => rw [e, e2] at h; cases h
      | some l => rw [lbs, nk_lb e, nks_lb e2]; rfl
end
theorem EsR.lb : ∀ {ks : List PV} {kws vws : List V} {es : List DictEntry}, EsR ks kws vws es → lbs 0 ks = true
  | [], _, _, _, _ => by rw [lbs]
  | k :: ks, _, _, _, h => by
    obtain ⟨a, as, b, bs, e, r, _, _, _, ⟨nk, h1, _⟩, _, _, h⟩ := h
    rw [lbs, nk_lb h1, EsR.lb h]; rfl

/-- the entries of a dict whose keys are ints -/
def kvI : List Int → List V → List (Key × V)
  | k :: ks, v :: vs => (.inl k, v) :: kvI ks vs
  | _, _ => []
mutual
def RelP (K : PySem.W.Frag) (F : Hp) (ρ : Nat → Addr) (n : Nat) : PV → V → Prop
  | .non, v => v = .non
  | .bl b, v => v = .bl b
  | .int i, v => v = .int i
  | .str x, v => v = .str x
  | .tup xs, v => ∃ a vs, v = .ref a ∧ SqT K F a vs ∧ RelPs K F ρ n xs vs
  | .lst xs, v => ∃ a vs, v = .ref a ∧ F a = some (.lst vs) ∧ RelPs K F ρ n xs vs
  | .ro xs, v => ∃ a vs, v = .ref a ∧ SqL K F a vs ∧ RelPs K F ρ n xs vs
  | .dct ks vs, v => ∃ a ob kws vws, v = .ref a ∧ F a = some (dO a ob) ∧ RelPs K F ρ n ks kws ∧ RelPs K F ρ n vs vws ∧ DObj a ks kws vws ob
  | .dki ks vs, v => ∃ a vws, v = .ref a ∧ F a = some (.dK (kvI ks vws)) ∧ ks.length = vs.length ∧ RelPs K F ρ n vs vws
  | .loc l, v => l < n ∧ v = .ref (ρ l)
def RelPs (K : PySem.W.Frag) (F : Hp) (ρ : Nat → Addr) (n : Nat) : List PV → List V → Prop
  | [], vs => vs = []
  | x :: r, vs => ∃ w ws, vs = w :: ws ∧ RelP K F ρ n x w ∧ RelPs K F ρ n r ws
end
abbrev Sub (F F' : Hp) : Prop := ∀ a o, F a = some o → F' a = some o
theorem Sub.rd {F F' : Hp} {a : Addr} {u : HO} (s : Sub F F') (h : Rd F a u) : Rd F' a u := by
  rcases h with h | ⟨o, h⟩
  · exact .inl (s _ _ h)
  · exact .inr ⟨o, s _ _ h⟩
theorem Sub.sqT {K : PySem.W.Frag} {F F' : Hp} {a : Addr} {vs : List V} (s : Sub F F') (h : SqT K F a vs) : SqT K F' a vs := by
  rcases h with h | h
  · exact .inl (s.rd h)
  · exact .inr h
theorem Sub.sqL {K : PySem.W.Frag} {F F' : Hp} {a : Addr} {vs : List V} (s : Sub F F') (h : SqL K F a vs) : SqL K F' a vs := by
  rcases h with h | h
  · exact .inl (s.rd h)
  · exact .inr h
section
variable {K : PySem.W.Frag} {F F' : Hp} {ρ ρ' : Nat → Addr} {n n' m : Nat}
mutual
theorem RelP.mono (s : Sub F F') (hr : ∀ l, l < n → ρ' l = ρ l) (hn : n ≤ n') : ∀ {x : PV} {v : V}, RelP K F ρ n x v → RelP K F' ρ' n' x v
  | .non, _, h => by rw [RelP] at h ⊢; exact h
  | .bl _, _, h => by rw [RelP] at h ⊢; exact h
  | .int _, _, h => by rw [RelP] at h ⊢; exact h
  | .str _, _, h => by rw [RelP] at h ⊢; exact h
  | .tup xs, _, h => by
    rw [RelP] at h ⊢
    obtain ⟨a, vs, e, q, r⟩ := h
    exact ⟨a, vs, e, s.sqT q, RelPs.mono s hr hn r⟩
  | .lst xs, _, h => by
    rw [RelP] at h ⊢
    obtain ⟨a, vs, e, q, r⟩ := h
    exact ⟨a, vs, e, s _ _ q, RelPs.mono s hr hn r⟩
  | .ro xs, _, h => by
    rw [RelP] at h ⊢
    obtain ⟨a, vs, e, q, r⟩ := h
    exact ⟨a, vs, e, s.sqL q, RelPs.mono s hr hn r⟩
  | .dct ks vs, _, h => by
    rw [RelP] at h ⊢
    obtain ⟨a, ob, kws, vws, e, q, r1, r2, d⟩ := h
    exact ⟨a, ob, kws, vws, e, s _ _ q, RelPs.mono s hr hn r1, RelPs.mono s hr hn r2, d⟩
  | .dki ks vs, _, h => by
    rw [RelP] at h ⊢
    obtain ⟨a, vws, e, q, l, r⟩ := h
    exact ⟨a, vws, e, s _ _ q, l, RelPs.mono s hr hn r⟩
  | .loc l, _, h => by
    rw [RelP] at h ⊢
    obtain ⟨q, e⟩ := h
    exact ⟨Nat.lt_of_lt_of_le q hn, by rw [hr l q]; exact e⟩
theorem RelPs.mono (s : Sub F F') (hr : ∀ l, l < n → ρ' l = ρ l) (hn : n ≤ n') : ∀ {xs : List PV} {vs : List V}, RelPs K F ρ n xs vs → RelPs K F' ρ' n' xs vs
  | [], _, h => by rw [RelPs] at h ⊢; exact h
  | x :: r, _, h => by
    rw [RelPs] at h ⊢
    obtain ⟨w, ws, e, h1, h2⟩ := h
    exact ⟨w, ws, e, RelP.mono s hr hn h1, RelPs.mono s hr hn h2⟩
end
mutual
/-- a value all whose places lie below m -/
theorem RelP.low (hr : ∀ l, l < m → ρ' l = ρ l) : ∀ {x : PV} {v : V}, x.lb m = true → RelP K F ρ n x v → RelP K F ρ' m x v
  | .non, _, _, h => by rw [RelP] at h ⊢; exact h
  | .bl _, _, _, h => by rw [RelP] at h ⊢; exact h
  | .int _, _, _, h => by rw [RelP] at h ⊢; exact h
  | .str _, _, _, h => by rw [RelP] at h ⊢; exact h
  | .tup xs, _, q, h => by
    rw [RelP] at h ⊢
    obtain ⟨a, vs, e, t, r⟩ := h
    exact ⟨a, vs, e, t, RelPs.low hr (by rw [PV.lb] at q; exact q) r⟩
  | .lst xs, _, q, h => by
    rw [RelP] at h ⊢
    obtain ⟨a, vs, e, t, r⟩ := h
    exact ⟨a, vs, e, t, RelPs.low hr (by rw [PV.lb] at q; exact q) r⟩
  | .ro xs, _, q, h => by
    rw [RelP] at h ⊢
    obtain ⟨a, vs, e, t, r⟩ := h
    exact ⟨a, vs, e, t, RelPs.low hr (by rw [PV.lb] at q; exact q) r⟩
  | .dct ks vs, _, q, h => by
    rw [RelP] at h ⊢
    rw [PV.lb, Bool.and_eq_true] at q
    obtain ⟨a, ob, kws, vws, e, t, r1, r2, d⟩ := h
    exact ⟨a, ob, kws, vws, e, t, RelPs.low hr q.1 r1, RelPs.low hr q.2 r2, d⟩
  | .dki ks vs, _, q, h => by
    rw [RelP] at h ⊢
    obtain ⟨a, vws, e, t, l, r⟩ := h
    exact ⟨a, vws, e, t, l, RelPs.low hr (by rw [PV.lb] at q; exact q) r⟩
  | .loc l, _, q, h => by
    rw [RelP] at h ⊢
    rw [PV.lb, decide_eq_true_eq] at q
    exact ⟨q, by rw [hr l q]; exact h.2⟩
theorem RelPs.low (hr : ∀ l, l < m → ρ' l = ρ l) : ∀ {xs : List PV} {vs : List V}, lbs m xs = true → RelPs K F ρ n xs vs → RelPs K F ρ' m xs vs
  | [], _, _, h => by rw [RelPs] at h ⊢; exact h
  | x :: r, _, q, h => by
    rw [RelPs] at h ⊢
    rw [lbs, Bool.and_eq_true] at q
    obtain ⟨w, ws, e, h1, h2⟩ := h
    exact ⟨w, ws, e, RelP.low hr q.1 h1, RelPs.low hr q.2 h2⟩
end
theorem RelPs.free0 {xs : List PV} {vs : List V} (q : lbs 0 xs = true) (h : RelPs K F ρ n xs vs) : RelPs K F ρ' 0 xs vs := RelPs.low (fun _ z => absurd z (Nat.not_lt_zero _)) q h
theorem RelP.free0 {x : PV} {v : V} (q : x.lb 0 = true) (h : RelP K F ρ n x v) : RelP K F ρ' 0 x v := RelP.low (fun _ z => absurd z (Nat.not_lt_zero _)) q h
theorem RelPs.any {xs : List PV} {vs : List V} (h : RelPs K F ρ 0 xs vs) : RelPs K F ρ' n xs vs := RelPs.mono (fun _ _ z => z) (fun _ z => absurd z (Nat.not_lt_zero _)) (Nat.zero_le _) h
theorem RelP.any {x : PV} {v : V} (h : RelP K F ρ 0 x v) : RelP K F ρ' n x v := RelP.mono (fun _ _ z => z) (fun _ z => absurd z (Nat.not_lt_zero _)) (Nat.zero_le _) h
theorem RelPs.nil : RelPs K F ρ n [] [] := by rw [RelPs]
theorem RelPs.cons {x : PV} {v : V} {xs : List PV} {vs : List V} (h : RelP K F ρ n x v) (t : RelPs K F ρ n xs vs) : RelPs K F ρ n (x :: xs) (v :: vs) := by
  rw [RelPs]; exact ⟨v, vs, rfl, h, t⟩
theorem RelPs.inv {x : PV} {xs : List PV} {vs : List V} (h : RelPs K F ρ n (x :: xs) vs) : ∃ w ws, vs = w :: ws ∧ RelP K F ρ n x w ∧ RelPs K F ρ n xs ws := by
  rw [RelPs] at h; exact h
theorem RelPs.inv0 {vs : List V} (h : RelPs K F ρ n [] vs) : vs = [] := by rw [RelPs] at h; exact h
theorem RelPs.length : ∀ {xs : List PV} {vs : List V}, RelPs K F ρ n xs vs → xs.length = vs.length
  | [], _, h => by rw [h.inv0]; rfl
  | x :: r, _, h => by
    obtain ⟨w, ws, e, _, t⟩ := h.inv
    rw [e, List.length_cons, List.length_cons, RelPs.length t]
theorem RelPs.get : ∀ {xs : List PV} {vs : List V} {i : Nat} {x : PV}, RelPs K F ρ n xs vs → xs[i]? = some x → ∃ w, vs[i]? = some w ∧ RelP K F ρ n x w
  | [], _, _, _, _, e => by simp at e
  | y :: r, _, 0, x, h, e => by
    obtain ⟨w, ws, rfl, q, _⟩ := h.inv
    simp at e; subst e
    exact ⟨w, rfl, q⟩
  | y :: r, _, i + 1, x, h, e => by
    obtain ⟨w, ws, rfl, _, t⟩ := h.inv
    obtain ⟨u, h1, h2⟩ := RelPs.get (i := i) t (by simpa using e)
    exact ⟨u, by simpa using h1, h2⟩
theorem RelPs.append : ∀ {xs ys : List PV} {vs ws : List V}, RelPs K F ρ n xs vs → RelPs K F ρ n ys ws → RelPs K F ρ n (xs ++ ys) (vs ++ ws)
  | [], _, _, _, h, q => by rw [h.inv0]; exact q
  | x :: r, _, _, _, h, q => by
    obtain ⟨w, ws, rfl, h1, t⟩ := h.inv
    exact .cons h1 (RelPs.append t q)
theorem RelPs.set {x : PV} {v : V} (q : RelP K F ρ n x v) : ∀ {xs : List PV} {vs : List V} (i : Nat), RelPs K F ρ n xs vs → RelPs K F ρ n (xs.set i x) (vs.set i v)
  | [], _, _, h => by rw [h.inv0]; exact .nil
  | y :: r, _, 0, h => by
    obtain ⟨w, ws, rfl, _, t⟩ := h.inv
    exact .cons q t
  | y :: r, _, i + 1, h => by
    obtain ⟨w, ws, rfl, h1, t⟩ := h.inv
    exact .cons h1 (RelPs.set q i t)
theorem RelPs.take : ∀ {xs : List PV} {vs : List V} (i : Nat), RelPs K F ρ n xs vs → RelPs K F ρ n (xs.take i) (vs.take i)
  | _, _, 0, _ => by rw [List.take_zero, List.take_zero]; exact .nil
  | [], _, _ + 1, h => by rw [h.inv0]; exact .nil
  | y :: r, _, i + 1, h => by
    obtain ⟨w, ws, rfl, h1, t⟩ := h.inv
    exact .cons h1 (RelPs.take i t)
theorem RelPs.drop : ∀ {xs : List PV} {vs : List V} (i : Nat), RelPs K F ρ n xs vs → RelPs K F ρ n (xs.drop i) (vs.drop i)
  | _, _, 0, h => h
  | [], _, _ + 1, h => by rw [h.inv0]; exact .nil
  | y :: r, _, i + 1, h => by
    obtain ⟨w, ws, rfl, h1, t⟩ := h.inv
    exact RelPs.drop i t
theorem RelPs.reverse : ∀ {xs : List PV} {vs : List V}, RelPs K F ρ n xs vs → RelPs K F ρ n xs.reverse vs.reverse
  | [], _, h => by rw [h.inv0]; exact .nil
  | y :: r, _, h => by
    obtain ⟨w, ws, rfl, h1, t⟩ := h.inv
    rw [List.reverse_cons, List.reverse_cons]
    exact .append (RelPs.reverse t) (.cons h1 .nil)
theorem RelPs.dropLast {xs : List PV} {vs : List V} (h : RelPs K F ρ n xs vs) : RelPs K F ρ n xs.dropLast vs.dropLast := by
  rw [List.dropLast_eq_take, List.dropLast_eq_take, h.length]
  exact h.take _
theorem RelPs.replicate {xs : List PV} {vs : List V} (h : RelPs K F ρ n xs vs) : ∀ k : Nat, RelPs K F ρ n (List.replicate k xs).flatten (List.replicate k vs).flatten
  | 0 => .nil
  | k + 1 => by
    rw [List.replicate_succ, List.replicate_succ, List.flatten_cons, List.flatten_cons]
    exact .append h (RelPs.replicate h k)
theorem RelPs.ints : ∀ (ns : List Int), RelPs K F ρ n (ns.map .int) (ns.map V.int)
  | [] => .nil
  | i :: r => .cons (by rw [RelP]) (RelPs.ints r)
theorem RelPs.intsInv : ∀ {xs : List PV} {vs : List V} {ns : List Int}, intsOf xs = some ns → RelPs K F ρ n xs vs → vs = ns.map V.int
  | [], _, _, e, h => by
    rw [intsOf] at e; cases e
    rw [h.inv0]; rfl
  | .int i :: r, _, _, e, h => by
    rw [intsOf] at e
    cases q : intsOf r with
    | none => rw [q] at e; cases e
    | some l =>
      rw [q] at e; cases e
      obtain ⟨w, ws, rfl, h1, t⟩ := h.inv
      rw [RelP] at h1
      rw [h1, RelPs.intsInv q t]; rfl
  | .non :: r, _, _, e, h => by rw [intsOf] at e <;> (try cases e) <;> (intro _ _ z; cases z)
  | .bl _ :: r, _, _, e, h => by rw [intsOf] at e <;> (try cases e) <;> (intro _ _ z; cases z)
  | .str _ :: r, _, _, e, h => by rw [intsOf] at e <;> (try cases e) <;> (intro _ _ z; cases z)
  | .tup _ :: r, _, _, e, h => by rw [intsOf] at e <;> (try cases e) <;> (intro _ _ z; cases z)
  | .lst _ :: r, _, _, e, h => by rw [intsOf] at e <;> (try cases e) <;> (intro _ _ z; cases z)
  | .ro _ :: r, _, _, e, h => by rw [intsOf] at e <;> (try cases e) <;> (intro _ _ z; cases z)
  | .dct _ _ :: r, _, _, e, h => by rw [intsOf] at e <;> (try cases e) <;> (intro _ _ z; cases z)
  | .dki _ _ :: r, _, _, e, h => by rw [intsOf] at e <;> (try cases e) <;> (intro _ _ z; cases z)
  | .loc _ :: r, _, _, e, h => by rw [intsOf] at e <;> (try cases e) <;> (intro _ _ z; cases z)
end

/-! ### worlds -/
def CRel (K : PySem.W.Frag) (F : Hp) (ρ : Nat → Addr) (n : Nat) (a : Addr) : Cell → Option HO → Prop
  | .lst xs, o => ∃ vs, o = some (.lst vs) ∧ RelPs K F ρ n xs vs
  | .dct ks vs, o => ∃ ob kws vws, o = some (dO a ob) ∧ RelPs K F ρ n ks kws ∧ RelPs K F ρ n vs vws ∧ DObj a ks kws vws ob
  | .dki ks vs, o => ∃ vws, o = some (.dK (kvI ks vws)) ∧ ks.length = vs.length ∧ RelPs K F ρ n vs vws
theorem CRel.mono {K : PySem.W.Frag} {F F' : Hp} {ρ ρ' : Nat → Addr} {n n' : Nat} {a : Addr} {c : Cell} {o : Option HO} (s : Sub F F') (hr : ∀ l, l < n → ρ' l = ρ l) (hn : n ≤ n') (h : CRel K F ρ n a c o) : CRel K F' ρ' n' a c o := by
  cases c with
  | lst xs =>
    obtain ⟨vs, e, r⟩ := h
    exact ⟨vs, e, r.mono s hr hn⟩
  | dct ks vs =>
    obtain ⟨ob, kws, vws, e, r1, r2, d⟩ := h
    exact ⟨ob, kws, vws, e, r1.mono s hr hn, r2.mono s hr hn, d⟩
  | dki ks vs =>
    obtain ⟨vws, e, l, r⟩ := h
    exact ⟨vws, e, l, r.mono s hr hn⟩
theorem CRel.low {K : PySem.W.Frag} {F : Hp} {ρ ρ' : Nat → Addr} {n m : Nat} {a : Addr} {c : Cell} {o : Option HO} (hr : ∀ l, l < m → ρ' l = ρ l) (q : c.lb m = true) (h : CRel K F ρ n a c o) : CRel K F ρ' m a c o := by
  cases c with
  | lst xs =>
    obtain ⟨vs, e, r⟩ := h
    exact ⟨vs, e, r.low hr q⟩
  | dct ks vs =>
    have q : (lbs m ks && lbs m vs) = true := q
    rw [Bool.and_eq_true] at q
    obtain ⟨ob, kws, vws, e, r1, r2, d⟩ := h
    exact ⟨ob, kws, vws, e, r1.low hr q.1, r2.low hr q.2, d⟩
  | dki ks vs =>
    obtain ⟨vws, e, l, r⟩ := h
    exact ⟨vws, e, l, r.low hr (show lbs m vs = true from q)⟩
theorem CRel.some' {K : PySem.W.Frag} {F : Hp} {ρ : Nat → Addr} {n : Nat} {a : Addr} {c : Cell} {o : Option HO} (h : CRel K F ρ n a c o) : ∃ u, o = some u := by
  cases c with
  | lst xs => obtain ⟨vs, e, _⟩ := h; exact ⟨_, e⟩
  | dct _ _ => obtain ⟨ob, _, _, e, _⟩ := h; exact ⟨_, e⟩
  | dki _ _ => obtain ⟨_, e, _⟩ := h; exact ⟨_, e⟩
structure Wld (K : PySem.W.Frag) (F : Hp) (ρ : Nat → Addr) (st : Sto) (H : Hp) : Prop where
  sub : Sub F H
  cell : ∀ l c, st.cs l = some c → F (ρ l) = none ∧ CRel K F ρ st.nxt (ρ l) c (H (ρ l))
  inj : ∀ l l' c c', st.cs l = some c → st.cs l' = some c' → ρ l = ρ l' → l = l'
structure Pst (K : PySem.W.Frag) (F : Hp) (ρ : Nat → Addr) (st : Sto) (H : Hp) (F' : Hp) (ρ' : Nat → Addr) (st' : Sto) (H' : Hp) : Prop where
  ex : Sub F F'
  rho : ∀ l, l < st.nxt → ρ' l = ρ l
  nxt : st.nxt ≤ st'.nxt
  wld : Wld K F' ρ' st' H'
  live : ∀ l c, l < st.nxt → st'.cs l = some c → ∃ c0, st.cs l = some c0
  fresh : ∀ l c, st.nxt ≤ l → st'.cs l = some c → H (ρ' l) = none
  ext : ∀ a o, H a = some o → (∀ l c, st.cs l = some c → ρ l ≠ a) → H' a = some o
  dom : ∀ a o, H a = some o → ∃ o', H' a = some o'
  fz : ∀ a o, F' a = some o → F a = some o ∨ H a = none ∨ ∃ l c, st.cs l = some c ∧ ρ l = a
section
variable {K : PySem.W.Frag} {F F1 F2 : Hp} {ρ ρ1 ρ2 : Nat → Addr} {st st1 st2 : Sto} {H H1 H2 : Hp}
theorem Pst.refl (w : Wld K F ρ st H) : Pst K F ρ st H F ρ st H :=
  ⟨fun _ _ z => z, fun _ _ => rfl, Nat.le_refl _, w, fun l c _ z => ⟨c, z⟩, fun l c q z => absurd (Sto.lt_of z) (Nat.not_lt.mpr q), fun _ _ z _ => z, fun _ o z => ⟨o, z⟩, fun _ _ z => .inl z⟩
theorem Pst.trans (a : Pst K F ρ st H F1 ρ1 st1 H1) (b : Pst K F1 ρ1 st1 H1 F2 ρ2 st2 H2) : Pst K F ρ st H F2 ρ2 st2 H2 where
  ex := fun x o z => b.ex x o (a.ex x o z)
  rho := fun l q => (b.rho l (Nat.lt_of_lt_of_le q a.nxt)).trans (a.rho l q)
  nxt := Nat.le_trans a.nxt b.nxt
  wld := b.wld
  live := fun l c q z => by
    obtain ⟨c1, h1⟩ := b.live l c (Nat.lt_of_lt_of_le q a.nxt) z
    exact a.live l c1 q h1
  fresh := fun l c q z => by
    by_cases h : l < st1.nxt
    · obtain ⟨c1, h1⟩ := b.live l c h z
      rw [b.rho l h]
      exact a.fresh l c1 q h1
    · have h2 := b.fresh l c (Nat.not_lt.mp h) z
      cases e : H (ρ2 l) with
      | none => rfl
      | some o =>
        obtain ⟨o', h3⟩ := a.dom _ _ e
        rw [h2] at h3; cases h3
  ext := fun x o z q => by
    refine b.ext x o (a.ext x o z q) fun l c h1 e => ?_
    by_cases h : l < st.nxt
    · obtain ⟨c0, h0⟩ := a.live l c h h1
      exact q l c0 h0 (by rw [← a.rho l h]; exact e)
    · have := a.fresh l c (Nat.not_lt.mp h) h1
      rw [e, z] at this; cases this
  dom := fun x o z => by
    obtain ⟨o1, h1⟩ := a.dom x o z
    exact b.dom x o1 h1
  fz := fun x o z => by
    have gone : H1 x = none → H x = none := fun h => by
      cases e : H x with
      | none => rfl
      | some u =>
        obtain ⟨o', h3⟩ := a.dom _ _ e
        rw [h] at h3; cases h3
    rcases b.fz x o z with h | h | ⟨l, c, h, e⟩
    · exact a.fz x o h
    · exact .inr (.inl (gone h))
    · by_cases q : l < st.nxt
      · obtain ⟨c0, h0⟩ := a.live l c q h
        exact .inr (.inr ⟨l, c0, h0, by rw [← a.rho l q]; exact e⟩)
      · refine .inr (.inl ?_)
        rw [← e]
        exact a.fresh l c (Nat.not_lt.mp q) h
theorem Wld.ne (w : Wld K F ρ st H) {l : Nat} {c : Cell} {p : Addr} (h : st.cs l = some c) (hp : H p = none) : ρ l ≠ p := fun e => by
  obtain ⟨u, hu⟩ := (w.cell l c h).2.some'
  rw [e, hp] at hu; cases hu
/-- a new thing that nobody changes -/
theorem Wld.new (w : Wld K F ρ st H) {p : Addr} {o : HO} (hp : H p = none) : Pst K F ρ st H (upd F p o) ρ st (upd H p o) := by
  have fp : F p = none := by
    cases e : F p with
    | none => rfl
    | some u => have := w.sub p u e; rw [hp] at this; cases this
  have sF : Sub F (upd F p o) := fun a u z => by rw [upd_ne (ne_of_none z fp)]; exact z
  refine ⟨sF, fun _ _ => rfl, Nat.le_refl _, ⟨fun a u z => ?_, fun l c z => ?_, w.inj⟩, fun l c _ z => ⟨c, z⟩, fun l c q z => absurd (Sto.lt_of z) (Nat.not_lt.mpr q), fun a u z _ => ?_, fun a u z => ⟨u, ?_⟩, fun a u z => ?_⟩
  · by_cases e : a = p
    · subst e; rw [upd_same] at z ⊢; exact z
    · rw [upd_ne e] at z ⊢; exact w.sub a u z
  · have n := w.ne z hp
    rw [upd_ne n, upd_ne n]
    exact ⟨(w.cell l c z).1, (w.cell l c z).2.mono sF (fun _ _ => rfl) (Nat.le_refl _)⟩
  · rw [upd_ne (ne_of_none z hp)]; exact z
  · rw [upd_ne (ne_of_none z hp)]; exact z
  · by_cases e : a = p
    · subst e; exact .inr (.inl hp)
    · rw [upd_ne e] at z; exact .inl z
/-- a new place -/
theorem Wld.alloc (w : Wld K F ρ st H) {p : Addr} {o : HO} {c : Cell} (hp : H p = none) (hlb : c.lb st.nxt = true) (hc : CRel K F ρ st.nxt p c (some o)) :
    Pst K F ρ st H F (fun l => if l = st.nxt then p else ρ l) (st.alloc c) (upd H p o) := by
  have fp : F p = none := by
    cases e : F p with
    | none => rfl
    | some u => have := w.sub p u e; rw [hp] at this; cases this
  have hr : ∀ l, l < st.nxt → (fun l => if l = st.nxt then p else ρ l) l = ρ l := fun l q => if_neg (by omega)
  refine ⟨fun _ _ z => z, hr, by rw [Sto.alloc_nxt]; omega, ⟨fun a u z => ?_, fun l d z => ?_, fun l l' d d' z z' e => ?_⟩, fun l d q z => ?_, fun l d q z => ?_, fun a u z _ => ?_, fun a u z => ⟨u, ?_⟩, fun _ _ z => .inl z⟩
  · rw [upd_ne (ne_of_none z fp)]; exact w.sub a u z
  · by_cases e : l = st.nxt
    · subst e
      rw [Sto.alloc_get hlb] at z; cases z
      rw [if_pos rfl, upd_same]
      exact ⟨fp, hc.mono (fun _ _ z => z) hr (by rw [Sto.alloc_nxt]; omega)⟩
    · rw [Sto.alloc_ne e] at z
      rw [if_neg e, upd_ne (w.ne z hp)]
      exact ⟨(w.cell l d z).1, (w.cell l d z).2.mono (fun _ _ z => z) hr (by rw [Sto.alloc_nxt]; omega)⟩
  · by_cases h : l = st.nxt
    · by_cases h' : l' = st.nxt
      · rw [h, h']
      · rw [if_pos h, if_neg h'] at e
        rw [Sto.alloc_ne h'] at z'
        exact absurd e.symm (w.ne z' hp)
    · by_cases h' : l' = st.nxt
      · rw [if_neg h, if_pos h'] at e
        rw [Sto.alloc_ne h] at z
        exact absurd e (w.ne z hp)
      · rw [if_neg h, if_neg h'] at e
        rw [Sto.alloc_ne h] at z
        rw [Sto.alloc_ne h'] at z'
        exact w.inj l l' d d' z z' e
  · rw [Sto.alloc_ne (by omega)] at z; exact ⟨d, z⟩
  · by_cases e : l = st.nxt
    · rw [if_pos e]; exact hp
    · rw [Sto.alloc_ne e] at z
      exact absurd (Sto.lt_of z) (Nat.not_lt.mpr q)
  · rw [upd_ne (ne_of_none z hp)]; exact z
  · rw [upd_ne (ne_of_none z hp)]; exact z
/-- a place is rewritten -/
theorem Wld.set (w : Wld K F ρ st H) {l : Nat} {o : HO} {c c0 : Cell} (hl : st.cs l = some c0) (hlb : c.lb st.nxt = true) (hc : CRel K F ρ st.nxt (ρ l) c (some o)) : Pst K F ρ st H F ρ (st.set l c) (upd H (ρ l) o) := by
  obtain ⟨fl, hcl⟩ := w.cell l c0 hl
  refine ⟨fun _ _ z => z, fun _ _ => rfl, Nat.le_refl _, ⟨fun a u z => ?_, fun j d z => ?_, fun j j' d d' z z' e => ?_⟩, fun j d q z => ?_, fun j d q z => ?_, fun a u z n => ?_, fun a u z => ?_, fun _ _ z => .inl z⟩
  · rw [upd_ne (ne_of_none z fl)]; exact w.sub a u z
  · by_cases e : j = l
    · subst e
      rw [Sto.set_get hl hlb] at z; cases z
      rw [upd_same]
      exact ⟨fl, hc⟩
    · rw [Sto.set_ne e] at z
      have n : ρ j ≠ ρ l := fun q => e (w.inj j l d c0 z hl q)
      rw [upd_ne n]
      exact w.cell j d z
  · have h : ∃ d0, st.cs j = some d0 := by
      by_cases e : j = l
      · subst e; exact ⟨_, hl⟩
      · rw [Sto.set_ne e] at z; exact ⟨_, z⟩
    have h' : ∃ d0, st.cs j' = some d0 := by
      by_cases e : j' = l
      · subst e; exact ⟨_, hl⟩
      · rw [Sto.set_ne e] at z'; exact ⟨_, z'⟩
    obtain ⟨d0, h⟩ := h
    obtain ⟨d1, h'⟩ := h'
    exact w.inj j j' d0 d1 h h' e
  · by_cases e : j = l
    · subst e; exact ⟨_, hl⟩
    · rw [Sto.set_ne e] at z; exact ⟨_, z⟩
  · exact absurd (Sto.lt_of z) (Nat.not_lt.mpr q)
  · rw [upd_ne (Ne.symm (n l c0 hl))]; exact z
  · by_cases e : a = ρ l
    · subst e; exact ⟨o, upd_same⟩
    · rw [upd_ne e]; exact ⟨u, z⟩
open Classical in
noncomputable def mixF (b : Nat) (st : Sto) (ρ : Nat → Addr) (H F : Hp) : Hp := fun a => if ∃ l c, b ≤ l ∧ st.cs l = some c ∧ ρ l = a then H a else F a
theorem mixF_pos {b : Nat} {a : Addr} (h : ∃ l c, b ≤ l ∧ st.cs l = some c ∧ ρ l = a) : mixF b st ρ H F a = H a := if_pos h
theorem mixF_neg {b : Nat} {a : Addr} (h : ¬ ∃ l c, b ≤ l ∧ st.cs l = some c ∧ ρ l = a) : mixF b st ρ H F a = F a := if_neg h
/-- the places from b on are places no more: what stands there stays so -/
theorem Wld.drop (w : Wld K F ρ st H) {b : Nat} (hb : b ≤ st.nxt) : ∃ F', Sub F F' ∧ Wld K F' ρ (st.restr b) H ∧ (∀ l c, b ≤ l → st.cs l = some c → F' (ρ l) = H (ρ l)) ∧ ∀ a o, F' a = some o → F a = some o ∨ ∃ l c, b ≤ l ∧ st.cs l = some c ∧ ρ l = a := by
  have sub : Sub F (mixF b st ρ H F) := fun a o z => by
    by_cases h : ∃ l c, b ≤ l ∧ st.cs l = some c ∧ ρ l = a
    · rw [mixF_pos h]; exact w.sub a o z
    · rw [mixF_neg h]; exact z
  have low : ∀ l c, (st.restr b).cs l = some c → st.cs l = some c ∧ l < b ∧ c.lb b = true := fun l c z => Sto.restr_get z
  refine ⟨mixF b st ρ H F, sub, ⟨fun a o z => ?_, fun l c z => ?_, fun l l' c c' z z' e => w.inj l l' c c' (low l c z).1 (low l' c' z').1 e⟩, fun l c q z => mixF_pos ⟨l, c, q, z, rfl⟩, fun a o z => ?_⟩
  · by_cases h : ∃ l c, b ≤ l ∧ st.cs l = some c ∧ ρ l = a
    · rw [mixF_pos h] at z; exact z
    · rw [mixF_neg h] at z; exact w.sub a o z
  · obtain ⟨z, q, qb⟩ := low l c z
    obtain ⟨f, r⟩ := w.cell l c z
    refine ⟨?_, (r.low (fun _ _ => rfl) qb).mono sub (fun _ _ => rfl) (Nat.le_refl _)⟩
    rw [mixF_neg]
    · exact f
    · rintro ⟨l', c', h1, h2, h3⟩
      have := w.inj l' l c' c h2 z h3
      omega
  · by_cases h : ∃ l c, b ≤ l ∧ st.cs l = some c ∧ ρ l = a
    · exact .inr h
    · rw [mixF_neg h] at z; exact .inl z
/-- a thing at D that is no part of the world is written -/
theorem Pst.side (a : Pst K F ρ st H F1 ρ1 st1 H1) {D : Addr} {o : HO} (hD : H D = none) (fD : F1 D = none) (nD : ∀ l c, st1.cs l = some c → ρ1 l ≠ D) : Pst K F ρ st H F1 ρ1 st1 (upd H1 D o) := by
  refine ⟨a.ex, a.rho, a.nxt, ⟨fun x u z => ?_, fun l c z => ?_, a.wld.inj⟩, a.live, a.fresh, fun x u z n => ?_, fun x u z => ?_, a.fz⟩
  · rw [upd_ne (ne_of_none z fD)]; exact a.wld.sub x u z
  · rw [upd_ne (nD l c z)]; exact a.wld.cell l c z
  · rw [upd_ne (ne_of_none z hD)]; exact a.ext x u z n
  · rw [upd_ne (ne_of_none z hD)]; exact a.dom x u z
/-- .. it is a value of the world from now on -/
theorem Pst.keepV (a : Pst K F ρ st H F1 ρ1 st1 H1) {D : Addr} {o : HO} (hD : H D = none) (fD : F1 D = none) (nD : ∀ l c, st1.cs l = some c → ρ1 l ≠ D) (h : H1 D = some o) : Pst K F ρ st H (upd F1 D o) ρ1 st1 H1 := by
  have sF : Sub F1 (upd F1 D o) := fun x u z => by rw [upd_ne (ne_of_none z fD)]; exact z
  refine ⟨fun x u z => sF x u (a.ex x u z), a.rho, a.nxt, ⟨fun x u z => ?_, fun l c z => ?_, a.wld.inj⟩, a.live, a.fresh, a.ext, a.dom, fun x u z => ?_⟩
  · by_cases e : x = D
    · subst e; rw [upd_same] at z; cases z; exact h
    · rw [upd_ne e] at z; exact a.wld.sub x u z
  · rw [upd_ne (nD l c z)]
    exact ⟨(a.wld.cell l c z).1, (a.wld.cell l c z).2.mono sF (fun _ _ => rfl) (Nat.le_refl _)⟩
  · by_cases e : x = D
    · subst e; exact .inr (.inl hD)
    · rw [upd_ne e] at z; exact a.fz x u z
/-- .. it is a place from now on -/
theorem Pst.keepL (a : Pst K F ρ st H F1 ρ1 st1 H1) {D : Addr} {o : HO} {c : Cell} (hD : H D = none) (fD : F1 D = none) (nD : ∀ l c, st1.cs l = some c → ρ1 l ≠ D) (h : H1 D = some o) (hlb : c.lb st1.nxt = true) (hc : CRel K F1 ρ1 st1.nxt D c (some o)) :
    Pst K F ρ st H F1 (fun l => if l = st1.nxt then D else ρ1 l) (st1.alloc c) H1 := by
  have hr : ∀ l, l < st1.nxt → (fun l => if l = st1.nxt then D else ρ1 l) l = ρ1 l := fun l q => if_neg (by omega)
  refine ⟨a.ex, fun l q => ?_, Nat.le_succ_of_le a.nxt, ⟨a.wld.sub, fun l d z => ?_, fun l l' d d' z z' e => ?_⟩, fun l d q z => ?_, fun l d q z => ?_, a.ext, a.dom, a.fz⟩
  · have := a.nxt
    show (if l = st1.nxt then D else ρ1 l) = ρ l
    rw [if_neg (by omega)]; exact a.rho l q
  · by_cases e : l = st1.nxt
    · subst e
      rw [Sto.alloc_get hlb] at z; cases z
      rw [if_pos rfl, h]
      exact ⟨fD, hc.mono (fun _ _ z => z) hr (by rw [Sto.alloc_nxt]; omega)⟩
    · rw [Sto.alloc_ne e] at z
      rw [if_neg e]
      exact ⟨(a.wld.cell l d z).1, (a.wld.cell l d z).2.mono (fun _ _ z => z) hr (by rw [Sto.alloc_nxt]; omega)⟩
  · by_cases h1 : l = st1.nxt
    · by_cases h2 : l' = st1.nxt
      · rw [h1, h2]
      · rw [if_pos h1, if_neg h2] at e
        rw [Sto.alloc_ne h2] at z'
        exact absurd e.symm (nD l' d' z')
    · by_cases h2 : l' = st1.nxt
      · rw [if_neg h1, if_pos h2] at e
        rw [Sto.alloc_ne h1] at z
        exact absurd e (nD l d z)
      · rw [if_neg h1, if_neg h2] at e
        rw [Sto.alloc_ne h1] at z
        rw [Sto.alloc_ne h2] at z'
        exact a.wld.inj l l' d d' z z' e
  · have := a.nxt
    rw [Sto.alloc_ne (by omega)] at z
    exact a.live l d q z
  · by_cases e : l = st1.nxt
    · rw [if_pos e]; exact hD
    · rw [if_neg e]
      rw [Sto.alloc_ne e] at z
      exact a.fresh l d q z
/-- a place is no place more -/
theorem Pst.kill (a : Pst K F ρ st H F1 ρ1 st1 H1) (l : Nat) : Pst K F ρ st H F1 ρ1 (st1.kill l) H1 := by
  have sub : ∀ j c, (st1.kill l).cs j = some c → st1.cs j = some c := fun j c z => by
    by_cases e : j = l
    · subst e; rw [Sto.kill_get] at z; cases z
    · rw [Sto.kill_ne e] at z; exact z
  exact ⟨a.ex, a.rho, a.nxt, ⟨a.wld.sub, fun j c z => a.wld.cell j c (sub j c z), fun j j' c c' z z' e => a.wld.inj j j' c c' (sub j c z) (sub j' c' z') e⟩, fun j c q z => a.live j c q (sub j c z), fun j c q z => a.fresh j c q (sub j c z), a.ext, a.dom, a.fz⟩
/-- what stands at a place becomes a value -/
theorem Wld.freeze (w : Wld K F ρ st H) {l : Nat} {c : Cell} (hl : st.cs l = some c) : ∃ F', Pst K F ρ st H F' ρ (st.kill l) H ∧ RelP K F' ρ st.nxt c.val (.ref (ρ l)) := by
  obtain ⟨fl, r⟩ := w.cell l _ hl
  obtain ⟨o, hv⟩ := r.some'
  have sF : Sub F (upd F (ρ l) o) := fun a u z => by rw [upd_ne (ne_of_none z fl)]; exact z
  have sub : ∀ j c, (st.kill l).cs j = some c → st.cs j = some c ∧ j ≠ l := fun j c z => by
    by_cases e : j = l
    · subst e; rw [Sto.kill_get] at z; cases z
    · rw [Sto.kill_ne e] at z; exact ⟨z, e⟩
  refine ⟨upd F (ρ l) o, ⟨sF, fun _ _ => rfl, Nat.le_refl _, ⟨fun a u z => ?_, fun j c z => ?_, fun j j' c c' z z' e => w.inj j j' c c' (sub j c z).1 (sub j' c' z').1 e⟩, fun j c _ z => ⟨c, (sub j c z).1⟩, fun j c q z => absurd (Sto.lt_of (sub j c z).1) (Nat.not_lt.mpr q), fun _ _ z _ => z, fun _ o z => ⟨o, z⟩, fun a o z => ?_⟩, ?_⟩
  · by_cases e : a = ρ l
    · subst e; rw [upd_same] at z; cases z; exact hv
    · rw [upd_ne e] at z; exact w.sub a u z
  · obtain ⟨z, e⟩ := sub j c z
    have n : ρ j ≠ ρ l := fun q => e (w.inj j l c _ z hl q)
    rw [upd_ne n]
    exact ⟨(w.cell j c z).1, (w.cell j c z).2.mono sF (fun _ _ => rfl) (Nat.le_refl _)⟩
  · by_cases e : a = ρ l
    · exact .inr (.inr ⟨l, _, hl, e.symm⟩)
    · rw [upd_ne e] at z; exact .inl z
  · rw [hv] at r
    cases c with
    | lst xs =>
      obtain ⟨vs, e, r⟩ := r
      cases e
      show RelP K _ ρ st.nxt (.lst xs) _
      rw [RelP]
      exact ⟨ρ l, vs, rfl, upd_same, r.mono sF (fun _ _ => rfl) (Nat.le_refl _)⟩
    | dct ks vs =>
      obtain ⟨ob, kws, vws, e, r1, r2, d⟩ := r
      cases e
      show RelP K _ ρ st.nxt (.dct ks vs) _
      rw [RelP]
      exact ⟨ρ l, ob, kws, vws, rfl, upd_same, r1.mono sF (fun _ _ => rfl) (Nat.le_refl _), r2.mono sF (fun _ _ => rfl) (Nat.le_refl _), d⟩
    | dki ks vs =>
      obtain ⟨vws, e, ll, r⟩ := r
      cases e
      show RelP K _ ρ st.nxt (.dki ks vs) _
      rw [RelP]
      exact ⟨ρ l, vws, rfl, upd_same, ll, r.mono sF (fun _ _ => rfl) (Nat.le_refl _)⟩
mutual
/-- what is told in the place's stead lies there -/
theorem RelP.subst {F' : Hp} {b n : Nat} {f : Nat → Option PV} (sF : Sub F F') (hf : ∀ l x', f l = some x' → RelP K F' ρ b x' (.ref (ρ l))) : ∀ {x x' : PV} {v : V}, RelP K F ρ n x v → x.sub f = some x' → RelP K F' ρ b x' v
  | .non, _, _, h, e => by rw [PV.sub] at e; cases e; rw [RelP] at h ⊢; exact h
  | .bl _, _, _, h, e => by rw [PV.sub] at e; cases e; rw [RelP] at h ⊢; exact h
  | .int _, _, _, h, e => by rw [PV.sub] at e; cases e; rw [RelP] at h ⊢; exact h
  | .str _, _, _, h, e => by rw [PV.sub] at e; cases e; rw [RelP] at h ⊢; exact h
  | .tup xs, _, _, h, e => by
    rw [PV.sub] at e
    cases q : subs f xs with
    | none => rw [q] at e; cases e
    | some ys =>
      rw [q] at e; cases e
      rw [RelP] at h ⊢
      obtain ⟨a, vs, e, t, r⟩ := h
      exact ⟨a, vs, e, sF.sqT t, RelPs.subst sF hf r q⟩
  | .lst xs, _, _, h, e => by
    rw [PV.sub] at e
    cases q : subs f xs with
    | none => rw [q] at e; cases e
    | some ys =>
      rw [q] at e; cases e
      rw [RelP] at h ⊢
      obtain ⟨a, vs, e, t, r⟩ := h
      exact ⟨a, vs, e, sF _ _ t, RelPs.subst sF hf r q⟩
  | .ro xs, _, _, h, e => by
    rw [PV.sub] at e
    cases q : subs f xs with
    | none => rw [q] at e; cases e
    | some ys =>
      rw [q] at e; cases e
      rw [RelP] at h ⊢
      obtain ⟨a, vs, e, t, r⟩ := h
      exact ⟨a, vs, e, sF.sqL t, RelPs.subst sF hf r q⟩
  | .dct ks vs, _, _, h, e => by
    rw [PV.sub] at e
    rw [RelP] at h
    obtain ⟨a, ob, kws, vws, e0, t, r1, r2, d⟩ := h
    have hk : lbs 0 ks = true := by obtain ⟨_, ⟨es, ep, _, z⟩, _⟩ := d; exact z.lb
    rw [subs_lb (b := 0) (fun _ z => absurd z (Nat.not_lt_zero _)) hk] at e
    cases q : subs f vs with
    | none => rw [q] at e; cases e
    | some ys =>
      rw [q] at e; cases e
      rw [RelP]
      exact ⟨a, ob, kws, vws, e0, sF _ _ t, (r1.free0 (ρ' := ρ) hk).any.mono sF (fun _ _ => rfl) (Nat.le_refl _), RelPs.subst sF hf r2 q, d⟩
  | .dki ks vs, _, _, h, e => by
    rw [PV.sub] at e
    cases q : subs f vs with
    | none => rw [q] at e; cases e
    | some ys =>
      rw [q] at e; cases e
      rw [RelP] at h ⊢
      obtain ⟨a, vws, e, t, l, r⟩ := h
      have r' := RelPs.subst sF hf r q
      exact ⟨a, vws, e, sF _ _ t, by rw [l, r.length, r'.length], r'⟩
  | .loc l, _, _, h, e => by
    rw [PV.sub] at e
    rw [RelP] at h
    obtain ⟨h1, rfl⟩ := h
    exact hf l _ e
theorem RelPs.subst {F' : Hp} {b n : Nat} {f : Nat → Option PV} (sF : Sub F F') (hf : ∀ l x', f l = some x' → RelP K F' ρ b x' (.ref (ρ l))) : ∀ {xs xs' : List PV} {vs : List V}, RelPs K F ρ n xs vs → subs f xs = some xs' → RelPs K F' ρ b xs' vs
  | [], _, _, h, e => by rw [subs] at e; cases e; rw [h.inv0]; exact .nil
  | x :: r, _, _, h, e => by
    rw [subs] at e
    cases q : x.sub f with
    | none => rw [q] at e; cases e
    | some y =>
      cases q2 : subs f r with
      | none => rw [q, q2] at e; cases e
      | some ys =>
        rw [q, q2] at e; cases e
        obtain ⟨w', ws, rfl, h1, t⟩ := h.inv
        exact .cons (RelP.subst sF hf h1 q) (RelPs.subst sF hf t q2)
end
theorem rsv_rel {F' : Hp} {b : Nat} (w : Wld K F ρ st H) (sF : Sub F F') (hf : ∀ l c, b ≤ l → st.cs l = some c → F' (ρ l) = H (ρ l)) : ∀ (m l : Nat) (x' : PV), rsv b st.cs m l = some x' → RelP K F' ρ b x' (.ref (ρ l)) := by
  intro m
  induction m with
  | zero =>
    intro l x' e
    have e : (if l < b then some (PV.loc l) else none) = some x' := e
    split at e
    · rename_i q
      cases e
      rw [RelP]
      exact ⟨q, rfl⟩
    · cases e
  | succ m ih =>
    intro l x' e
    by_cases q : l < b
    · rw [rsv_lt q] at e
      cases e
      rw [RelP]
      exact ⟨q, rfl⟩
    · cases d : st.cs l with
      | none =>
        have e : (if l < b then some (PV.loc l) else match st.cs l with | some c => c.val.sub (rsv b st.cs m) | none => none) = some x' := e
        rw [if_neg q, d] at e
        cases e
      | some c =>
        rw [rsv_ge (Nat.not_lt.mp q) d] at e
        obtain ⟨_, r⟩ := w.cell l c d
        have hF := hf l c (Nat.not_lt.mp q) d
        cases c with
        | lst xs =>
          obtain ⟨vs, hv, r⟩ := r
          have e : (PV.lst xs).sub (rsv b st.cs m) = some x' := e
          rw [PV.sub] at e
          cases z : subs (rsv b st.cs m) xs with
          | none => rw [z] at e; cases e
          | some ys =>
            rw [z] at e; cases e
            rw [RelP]
            exact ⟨ρ l, vs, rfl, by rw [hF]; exact hv, RelPs.subst sF ih r z⟩
        | dct ks vs =>
          obtain ⟨ob, kws, vws, hv, r1, r2, dd⟩ := r
          have e : (PV.dct ks vs).sub (rsv b st.cs m) = some x' := e
          have hk : lbs 0 ks = true := by obtain ⟨_, ⟨es, ep, _, z⟩, _⟩ := dd; exact z.lb
          rw [PV.sub, subs_lb (b := 0) (fun _ z => absurd z (Nat.not_lt_zero _)) hk] at e
          cases z : subs (rsv b st.cs m) vs with
          | none => rw [z] at e; cases e
          | some ys =>
            rw [z] at e; cases e
            rw [RelP]
            exact ⟨ρ l, ob, kws, vws, rfl, by rw [hF]; exact hv, (r1.free0 (ρ' := ρ) hk).any.mono sF (fun _ _ => rfl) (Nat.le_refl _), RelPs.subst sF ih r2 z, dd⟩
        | dki ks vs =>
          obtain ⟨vws, hv, ll, r⟩ := r
          have e : (PV.dki ks vs).sub (rsv b st.cs m) = some x' := e
          rw [PV.sub] at e
          cases z : subs (rsv b st.cs m) vs with
          | none => rw [z] at e; cases e
          | some ys =>
            rw [z] at e; cases e
            rw [RelP]
            have r' := RelPs.subst sF ih r z
            exact ⟨ρ l, vws, rfl, by rw [hF]; exact hv, by rw [ll, r.length, r'.length], r'⟩
theorem RelP.res {F' : Hp} {b n : Nat} (w : Wld K F ρ st H) (sF : Sub F F') (hf : ∀ l c, b ≤ l → st.cs l = some c → F' (ρ l) = H (ρ l)) {x x' : PV} {v : V} (h : RelP K F ρ n x v) (e : x.res b st.cs = some x') : RelP K F' ρ b x' v :=
  RelP.subst sF (rsv_rel w sF hf 8) h e
/-- from st the places from b on are dropped: seen from an elder state at b -/
theorem Pst.drop {b : Nat} (a : Pst K F ρ st H F1 ρ1 st1 H1) (hb : b = st.nxt) : ∃ F', Sub F1 F' ∧ Pst K F ρ st H F' ρ1 (st1.restr b) H1 ∧ (∀ l c, b ≤ l → st1.cs l = some c → F' (ρ1 l) = H1 (ρ1 l)) ∧ ∀ x o, F' x = some o → F1 x = some o ∨ ∃ l c, b ≤ l ∧ st1.cs l = some c ∧ ρ1 l = x := by
  obtain ⟨F', s, w, f, g⟩ := a.wld.drop (b := b) (by rw [hb]; exact a.nxt)
  have sub : ∀ l c, (st1.restr b).cs l = some c → st1.cs l = some c ∧ l < b := fun l c z => ⟨(Sto.restr_get z).1, (Sto.restr_get z).2.1⟩
  refine ⟨F', s, ⟨fun x o z => s _ _ (a.ex x o z), a.rho, by rw [Sto.restr_nxt, hb]; exact Nat.le_refl _, w, fun l c q z => a.live l c q (sub l c z).1, fun l c q z => absurd (sub l c z).2 (by omega), a.ext, a.dom, fun x o z => ?_⟩, f, g⟩
  rcases g x o z with h | ⟨l, c, h1, h2, h3⟩
  · exact a.fz x o h
  · refine .inr (.inl ?_)
    rw [← h3]
    exact a.fresh l c (by rw [← hb]; exact h1) h2
end

/-! ### slots -/
def ERel (K : PySem.W.Frag) (F : Hp) (ρ : Nat → Addr) (n : Nat) (env : Env) (σ : L2.St) : Prop :=
  env.length = σ.length ∧ ∀ (i : Nat) (v : PV), env[i]? = some (some v) → ∃ w, σ[i]? = some (some w) ∧ RelP K F ρ n v w
section
variable {K : PySem.W.Frag} {F F1 F2 : Hp} {ρ ρ1 ρ2 : Nat → Addr} {st st1 st2 : Sto} {H H1 H2 : Hp} {env : Env} {σ : L2.St} {n n' : Nat}
theorem ERel.mono (s : Sub F F1) (hr : ∀ l, l < n → ρ1 l = ρ l) (hn : n ≤ n') (h : ERel K F ρ n env σ) : ERel K F1 ρ1 n' env σ :=
  ⟨h.1, fun i v e => let ⟨w, e2, r⟩ := h.2 i v e; ⟨w, e2, r.mono s hr hn⟩⟩
theorem ERel.step (a : Pst K F ρ st H F1 ρ1 st1 H1) (h : ERel K F ρ st.nxt env σ) : ERel K F1 ρ1 st1.nxt env σ := h.mono a.ex a.rho a.nxt
theorem RelP.step {v : PV} {w : V} (a : Pst K F ρ st H F1 ρ1 st1 H1) (h : RelP K F ρ st.nxt v w) : RelP K F1 ρ1 st1.nxt v w := h.mono a.ex a.rho a.nxt
theorem RelPs.step {v : List PV} {w : List V} (a : Pst K F ρ st H F1 ρ1 st1 H1) (h : RelPs K F ρ st.nxt v w) : RelPs K F1 ρ1 st1.nxt v w := h.mono a.ex a.rho a.nxt
theorem ERel.set {v : PV} {w : V} (h : ERel K F ρ n env σ) (r : RelP K F ρ n v w) (i : Nat) : ERel K F ρ n (env.set i (some v)) (σ.set i (some w)) := by
  refine ⟨by rw [List.length_set, List.length_set]; exact h.1, fun j u e => ?_⟩
  by_cases q : i = j
  · subst q
    by_cases hl : i < env.length
    · rw [List.getElem?_set_self hl] at e; cases e
      exact ⟨w, List.getElem?_set_self (by rw [← h.1]; exact hl), r⟩
    · rw [List.getElem?_eq_none (by rw [List.length_set]; omega)] at e; cases e
  · rw [List.getElem?_set_ne q] at e ⊢
    exact h.2 j u e
theorem ERel.wipe1 (h : ERel K F ρ n env σ) (i : Nat) : ERel K F ρ n (env.set i none) (σ.set i none) := by
  refine ⟨by rw [List.length_set, List.length_set]; exact h.1, fun j u e => ?_⟩
  by_cases q : i = j
  · subst q
    by_cases hl : i < env.length
    · rw [List.getElem?_set_self hl] at e; cases e
    · rw [List.getElem?_eq_none (by rw [List.length_set]; omega)] at e; cases e
  · rw [List.getElem?_set_ne q] at e ⊢
    exact h.2 j u e
theorem ERel.wipe (h : ERel K F ρ n env σ) : ∀ vs : List Nat, ERel K F ρ n (wipeE env vs) (L2.wipe σ vs)
  | [] => h
  | v :: vs => by rw [wipeE, L2.wipe]; exact (ERel.wipe h vs).wipe1 v
end
end DL

/-! DL2: expressions: what DL0's pieces compute is what the text computes. -/
namespace DL
open PySem PySem.Spec PyProof.Rows L2

section
variable (X : Cx)
def wE (e : Expr) : TE := fun σ H Q => ∀ pins s, Inv X pins σ H s → wpAny (model X.prog X.w) X.A (eval e X.env) (EP X pins σ Q) X.xe s
def wT (e : Expr) : TT := fun σ H Q => ∀ pins s, Inv X pins σ H s → wpAny (model X.prog X.w) X.A (isTrue e X.env (eval e X.env)) (TP X pins σ Q) X.xe s
def wW (e : Expr) : TT := fun σ H Q => ∀ whole pins s, Inv X pins σ H s → wpAny (model X.prog X.w) X.A (isTrue e X.env whole) (TP X pins σ Q) X.xe s
def wA (es : List Expr) : TA := fun σ H Q => ∀ pos pins s, Inv X pins σ H s → wpAny (model X.prog X.w) X.A (spliced (backTo pos (starEach es X.env))) (AP X pins σ Q) X.xe s
def wS (s : Stmt) : TS := fun D σ H => ∀ pins st, Inv X pins σ H st → wpAny (model X.prog X.w) X.A (exec s X.env) (SP X pins D) X.xe st
def wSs (s : List Stmt) : TS := fun D σ H => ∀ pins st, Inv X pins σ H st → wpAny (model X.prog X.w) X.A (execs s X.env) (SP X pins D) X.xe st
def wI (tg iter : Expr) : TI := fun σ H R => ∀ pins s, Inv X pins σ H s → wpAny (model X.prog X.w) X.A (eval iter X.env) (fun v s1 => wpAny (model X.prog X.w) X.A (pyIter v) (PIE X pins σ tg R) X.xe s1) X.xe s
def wG (tg : Expr) : TG := fun v σ H Q => ∀ pins s u, Inv X pins σ H s → RelV v u → wpAny (model X.prog X.w) X.A (assign tg X.env u) (fun _ s' => ∃ σ' H', Inv X pins σ' H' s' ∧ Q σ' H') X.xe s
def wGs (ts : List Expr) : TGs := fun vs σ H Q => ∀ pins s us, Inv X pins σ H s → Vals vs us → wpAny (model X.prog X.w) X.A (assignInOrder ((assignEach ts X.env).map (·.2)) us) (fun _ s' => ∃ σ' H', Inv X pins σ' H' s' ∧ Q σ' H') X.xe s
def wR (f : Value → Value → Sem Value) : R2 := fun x y H Q => ∀ pins s σ v u, Inv X pins σ H s → RelV x v → RelV y u → wpAny (model X.prog X.w) X.A (f v u) (EP X pins σ Q) X.xe s
def wU (f : Value → Sem Value) : V → Hp → VK → Prop := fun x H Q => ∀ pins s σ v, Inv X pins σ H s → RelV x v → wpAny (model X.prog X.w) X.A (f v) (EP X pins σ Q) X.xe s
def wC (f : Value) : List V → Hp → VK → Prop := fun xs H Q => ∀ pins s σ us, Inv X pins σ H s → Vals xs us → wpAny (model X.prog X.w) X.A (call f us) (EP X pins σ Q) X.xe s
def wM (id : String) : V → List V → Hp → VK → Prop := fun x xs H Q => ∀ pins s σ v us, Inv X pins σ H s → RelV x v → Vals xs us → wpAny (model X.prog X.w) X.A (call (.builtin id) (v :: us)) (EP X pins σ Q) X.xe s
def wIx : R2 := fun x y H Q => ∀ value slice pins s σ v u, Inv X pins σ H s → RelV x v → RelV y u → subscripted slice false v u = operate [v, u] (getItem v u) → wpAny (model X.prog X.w) X.A (subscriptTail value slice v u) (EP X pins σ Q) X.xe s
def wSet : TSet := fun o i v H Q => ∀ pins s σ ov iv u, Inv X pins σ H s → RelV o ov → RelV i iv → RelV v u → wpAny (model X.prog X.w) X.A (setItem ov iv u) (fun _ s' => ∃ H', Inv X pins σ H' s' ∧ Q H') X.xe s
def wO (e : Option Expr) : TO := fun σ H Q => ∀ (t : TO), PO X e t → t σ H Q
end
section
variable {X : Cx} {e : Expr} {σ : L2.St} {H : Hp}
theorem pe_w : PE X e (wE X e) := ⟨fun pins s _ _ _ I h => h pins s I⟩
theorem pt_w : PT X e (wT X e) := ⟨fun pins s _ _ _ I h => h pins s I⟩
theorem pw_w : PW X e (wW X e) := ⟨fun wh pins s _ _ _ I h => h wh pins s I⟩
theorem pa_w {es} : PA X es (wA X es) := ⟨fun pos pins s _ _ _ I h => h pos pins s I⟩
theorem ps_w {s} : PS X s (wS X s) := ⟨fun pins st _ _ _ I h => h pins st I⟩
theorem pss_w {s} : PSs X s (wSs X s) := ⟨fun pins st _ _ _ I h => h pins st I⟩
theorem pi_w {tg it} : PI X tg it (wI X tg it) := ⟨fun pins s _ _ _ I h => h pins s I⟩
theorem pg_w {tg} : PG X tg (wG X tg) := ⟨fun pins s _ _ _ u _ I r h => h pins s u I r⟩
theorem pgs_w {ts} : PGs X ts (wGs X ts) := ⟨fun pins s _ _ _ us _ I r h => h pins s us I r⟩
theorem opr_w {f} : OpR X f (wR X f) := fun pins s σ _ _ _ v u _ I r1 r2 h => h pins s σ v u I r1 r2
theorem unr_w {f} : UnR X f (wU X f) := fun pins s σ _ _ v _ I r1 h => h pins s σ v I r1
theorem cr_w {f} : CallR X f (wC X f) := fun pins s σ _ _ us _ I r h => h pins s σ us I r
theorem mr_w {id} : MtR X id (wM X id) := fun pins s σ _ _ _ v us _ I r1 r2 h => h pins s σ v us I r1 r2
theorem ix_w : IxR X (wIx X) := fun value slice pins s σ _ _ _ v u _ I r1 r2 h hs => h value slice pins s σ v u I r1 r2 hs
theorem set_w : PSet X (wSet X) := fun pins s σ _ _ _ _ ov iv u _ I r1 r2 r3 h => h pins s σ ov iv u I r1 r2 r3
theorem wE_of {t : TE} {Q : VK} (h : PE X e t) (q : t σ H Q) : wE X e σ H Q := fun pins s I => h.run pins s σ H Q I q
theorem wT_of {t : TT} {Q : Bool → Hp → Prop} (h : PT X e t) (q : t σ H Q) : wT X e σ H Q := fun pins s I => h.run pins s σ H Q I q
theorem wW_of {t : TT} {Q : Bool → Hp → Prop} (h : PW X e t) (q : t σ H Q) : wW X e σ H Q := fun wh pins s I => h.run wh pins s σ H Q I q
theorem wA_of {es} {t : TA} {Q : List V → Hp → Prop} (h : PA X es t) (q : t σ H Q) : wA X es σ H Q := fun pos pins s I => h.run pos pins s σ H Q I q
theorem wS_of {s} {t : TS} {D : Ends} (h : PS X s t) (q : t D σ H) : wS X s D σ H := fun pins st I => h.run pins st σ H D I q
theorem wSs_of {s} {t : TS} {D : Ends} (h : PSs X s t) (q : t D σ H) : wSs X s D σ H := fun pins st I => h.run pins st σ H D I q
theorem wI_of {tg it} {t : TI} {R} (h : PI X tg it t) (q : t σ H R) : wI X tg it σ H R := fun pins s I => h.run pins s σ H R I q
theorem wG_of {tg} {t : TG} {v} {Q} (h : PG X tg t) (q : t v σ H Q) : wG X tg v σ H Q := fun pins s u I r => h.run pins s σ H v u Q I r q
theorem wGs_of {ts} {t : TGs} {vs} {Q} (h : PGs X ts t) (q : t vs σ H Q) : wGs X ts vs σ H Q := fun pins s us I r => h.run pins s σ H vs us Q I r q
theorem wR_of {f} {r : R2} {x y} {Q : VK} (h : OpR X f r) (q : r x y H Q) : wR X f x y H Q := fun pins s σ v u I r1 r2 => h pins s σ H x y v u Q I r1 r2 q
theorem wU_of {f} {r : V → Hp → VK → Prop} {x} {Q : VK} (h : UnR X f r) (q : r x H Q) : wU X f x H Q := fun pins s σ v I r1 => h pins s σ H x v Q I r1 q
theorem wC_of {f} {r : List V → Hp → VK → Prop} {xs} {Q : VK} (h : CallR X f r) (q : r xs H Q) : wC X f xs H Q := fun pins s σ us I r1 => h pins s σ H xs us Q I r1 q
theorem wM_of {id} {r : V → List V → Hp → VK → Prop} {x xs} {Q : VK} (h : MtR X id r) (q : r x xs H Q) : wM X id x xs H Q := fun pins s σ v us I r1 r2 => h pins s σ H x xs v us Q I r1 r2 q
theorem wIx_of {r : R2} {x y} {Q : VK} (h : IxR X r) (q : r x y H Q) : wIx X x y H Q := fun value slice pins s σ v u I r1 r2 hs => h value slice pins s σ H x y v u Q I r1 r2 q hs
theorem wSet_of {t : TSet} {o i v} {Q} (h : PSet X t) (q : t o i v H Q) : wSet X o i v H Q := fun pins s σ ov iv u I r1 r2 r3 => h pins s σ H o i v ov iv u Q I r1 r2 r3 q
end

/-! ### what is shown of a piece -/
/-- what follows a value -/
abbrev Ct (K : PySem.W.Frag) (F : Hp) (ρ : Nat → Addr) (st : Sto) (H : Hp) (v : PV) (st' : Sto) (Q : VK) : Prop :=
  ∀ F' ρ' w H', Pst K F ρ st H F' ρ' st' H' → RelP K F' ρ' st'.nxt v w → Q w H'
abbrev Cts (K : PySem.W.Frag) (F : Hp) (ρ : Nat → Addr) (st : Sto) (H : Hp) (v : List PV) (st' : Sto) (Q : List V → Hp → Prop) : Prop :=
  ∀ F' ρ' w H', Pst K F ρ st H F' ρ' st' H' → RelPs K F' ρ' st'.nxt v w → Q w H'
def SndE (X : Cx) (e : Expr) (D : DE) : Prop := ∀ F ρ env st v st' σ H Q, Wld X.K F ρ st H → ERel X.K F ρ st.nxt env σ → D env st = some (v, st') → Ct X.K F ρ st H v st' Q → wE X e σ H Q
def SndA (X : Cx) (es : List Expr) (D : DA) : Prop := ∀ F ρ env st v st' σ H Q, Wld X.K F ρ st H → ERel X.K F ρ st.nxt env σ → D env st = some (v, st') → Cts X.K F ρ st H v st' Q → wA X es σ H Q
def SndT (X : Cx) (e : Expr) (D : DT) : Prop := ∀ F ρ env st b st' σ H Q, Wld X.K F ρ st H → ERel X.K F ρ st.nxt env σ → D env st = some (b, st') →
  (∀ F' ρ' H', Pst X.K F ρ st H F' ρ' st' H' → Q b H') → wT X e σ H Q
def SndW (X : Cx) (e : Expr) (D : DT) : Prop := ∀ F ρ env st b st' σ H Q, Wld X.K F ρ st H → ERel X.K F ρ st.nxt env σ → D env st = some (b, st') →
  (∀ F' ρ' H', Pst X.K F ρ st H F' ρ' st' H' → Q b H') → wW X e σ H Q
def SndO (X : Cx) (f : Value → Value → Sem Value) (D : PV → PV → M PV) : Prop := ∀ F ρ st x y w1 w2 v st' H Q, Wld X.K F ρ st H → RelP X.K F ρ st.nxt x w1 → RelP X.K F ρ st.nxt y w2 → D x y st = some (v, st') → Ct X.K F ρ st H v st' Q → wR X f w1 w2 H Q
def SndU (X : Cx) (f : Value → Sem Value) (D : PV → M PV) : Prop := ∀ F ρ st x w1 v st' H Q, Wld X.K F ρ st H → RelP X.K F ρ st.nxt x w1 → D x st = some (v, st') → Ct X.K F ρ st H v st' Q → wU X f w1 H Q
def SndC (X : Cx) (f : Value) (D : FSem) : Prop := ∀ F ρ st xs ws v st' H Q, Wld X.K F ρ st H → RelPs X.K F ρ st.nxt xs ws → D xs st = some (v, st') → Ct X.K F ρ st H v st' Q → wC X f ws H Q
def SndM (X : Cx) (id : String) (D : Nat → FSem) : Prop := ∀ F ρ st l xs ws v st' H Q, Wld X.K F ρ st H → RelPs X.K F ρ st.nxt xs ws → D l xs st = some (v, st') → Ct X.K F ρ st H v st' Q → wM X id (.ref (ρ l)) ws H Q
def SndIx (X : Cx) (D : PV → PV → M PV) : Prop := ∀ F ρ st x y w1 w2 v st' H Q, Wld X.K F ρ st H → RelP X.K F ρ st.nxt x w1 → RelP X.K F ρ st.nxt y w2 → D x y st = some (v, st') → Ct X.K F ρ st H v st' Q → wIx X w1 w2 H Q

/-! ### values -/
section
variable {X : Cx} {F : Hp} {ρ : Nat → Addr} {st st' : Sto} {H : Hp} {x v : PV} {w : V} {xs : List PV} {ws : List V} {Q : VK}
theorem Ct.here (W : Wld X.K F ρ st H) (c : Ct X.K F ρ st H v st Q) (r : RelP X.K F ρ st.nxt v w) : Q w H := c F ρ w H (Pst.refl W) r
theorem Ct.of {F1 : Hp} {ρ1 : Nat → Addr} {st1 : Sto} {H1 : Hp} (a : Pst X.K F ρ st H F1 ρ1 st1 H1) (c : Ct X.K F ρ st H v st' Q) : Ct X.K F1 ρ1 st1 H1 v st' Q := fun F' ρ' w H' p r => c F' ρ' w H' (a.trans p) r
theorem Ct.newV (W : Wld X.K F ρ st H) (c : Ct X.K F ρ st H v st Q) {p : Addr} {o : HO} (hp : H p = none) (r : RelP X.K (upd F p o) ρ st.nxt v (.ref p)) : Q (.ref p) (upd H p o) := c _ _ _ _ (W.new hp) r
theorem newF (W : Wld X.K F ρ st H) {p : Addr} {o : HO} (hp : H p = none) : Sub F (upd F p o) := (W.new hp).ex
theorem mkL_ok {m : Bool} (W : Wld X.K F ρ st H) (r : RelPs X.K F ρ st.nxt xs ws) (h : mkL m xs st = some (v, st')) (c : Ct X.K F ρ st H v st' Q) : ws.length ≤ sizeLine ∧ ∀ p, H p = none → Q (.ref p) (upd H p (.lst ws)) := by
  unfold mkL at h
  split at h
  · rename_i hz
    rw [r.length] at hz
    refine ⟨hz, fun p hp => ?_⟩
    split at h
    · split at h
      · rename_i hl
        cases h
        have a := W.alloc (c := .lst xs) (o := .lst ws) hp hl ⟨ws, rfl, r⟩
        refine c _ _ _ _ a ?_
        rw [RelP]
        exact ⟨by rw [Sto.alloc_nxt]; omega, by rw [if_pos rfl]⟩
      · cases h
    · cases h
      refine c.newV W hp ?_
      rw [RelP]
      exact ⟨p, ws, rfl, upd_same, r.mono (newF W hp) (fun _ _ => rfl) (Nat.le_refl _)⟩
  · cases h
theorem mkT_ok (W : Wld X.K F ρ st H) (r : RelPs X.K F ρ st.nxt xs ws) (h : mkT xs st = some (v, st')) (c : Ct X.K F ρ st H v st' Q) : ws.length ≤ sizeLine ∧ ∀ p, H p = none → Q (.ref p) (upd H p (.tup ws)) := by
  unfold mkT at h
  split at h
  · rename_i hz
    rw [r.length] at hz
    refine ⟨hz, fun p hp => ?_⟩
    cases h
    refine c.newV W hp ?_
    rw [RelP]
    exact ⟨p, ws, rfl, .inl (.inl upd_same), r.mono (newF W hp) (fun _ _ => rfl) (Nat.le_refl _)⟩
  · cases h
theorem tupV_ok (W : Wld X.K F ρ st H) (r : RelPs X.K F ρ st.nxt xs ws) (c : Ct X.K F ρ st H (.tup xs) st Q) {p : Addr} (hp : H p = none) : Q (.ref p) (upd H p (.tup ws)) := by
  refine c.newV W hp ?_
  rw [RelP]
  exact ⟨p, ws, rfl, .inl (.inl upd_same), r.mono (newF W hp) (fun _ _ => rfl) (Nat.le_refl _)⟩
theorem seq_ok (W : Wld X.K F ρ st H) (r : RelP X.K F ρ st.nxt x w) (h : seqOf st x = some xs) : ∃ a vs, w = .ref a ∧ (SqL X.K H a vs ∨ SqT X.K H a vs) ∧ RelPs X.K F ρ st.nxt xs vs := by
  unfold seqOf at h
  split at h
  · cases h
    rw [RelP] at r
    obtain ⟨a, vs, e, q, r⟩ := r
    exact ⟨a, vs, e, .inr (W.sub.sqT q), r⟩
  · cases h
    rw [RelP] at r
    obtain ⟨a, vs, e, q, r⟩ := r
    exact ⟨a, vs, e, .inl (.inl (.inl (W.sub _ _ q))), r⟩
  · cases h
    rw [RelP] at r
    obtain ⟨a, vs, e, q, r⟩ := r
    exact ⟨a, vs, e, .inl (W.sub.sqL q), r⟩
  · rename_i l
    rw [RelP] at r
    obtain ⟨q, rfl⟩ := r
    split at h
    · rename_i ys hy
      cases h
      obtain ⟨_, vs, e, r⟩ := W.cell l _ hy
      exact ⟨_, vs, rfl, .inl (.inl (.inl e)), r⟩
    · cases h
  · cases h
theorem lst_ok (W : Wld X.K F ρ st H) (r : RelP X.K F ρ st.nxt x w) (h : lstOf st x = some xs) : ∃ a vs, w = .ref a ∧ H a = some (.lst vs) ∧ RelPs X.K F ρ st.nxt xs vs := by
  unfold lstOf at h
  split at h
  · cases h
    rw [RelP] at r
    obtain ⟨a, vs, e, q, r⟩ := r
    exact ⟨a, vs, e, W.sub _ _ q, r⟩
  · rename_i l
    rw [RelP] at r
    obtain ⟨q, rfl⟩ := r
    split at h
    · rename_i ys hy
      cases h
      obtain ⟨_, vs, e, r⟩ := W.cell l _ hy
      exact ⟨_, vs, rfl, e, r⟩
    · cases h
  · cases h
theorem tup_ok (W : Wld X.K F ρ st H) (r : RelP X.K F ρ st.nxt (.tup xs) w) : ∃ a vs, w = .ref a ∧ SqT X.K H a vs ∧ RelPs X.K F ρ st.nxt xs vs := by
  rw [RelP] at r
  obtain ⟨a, vs, e, q, r⟩ := r
  exact ⟨a, vs, e, W.sub.sqT q, r⟩
theorem int_ok {K : PySem.W.Frag} {n : Nat} {i : Int} (r : RelP K F ρ n (.int i) w) : w = .int i := by rw [RelP] at r; exact r
theorem bl_ok {K : PySem.W.Frag} {n : Nat} {i : Bool} (r : RelP K F ρ n (.bl i) w) : w = .bl i := by rw [RelP] at r; exact r
theorem str_ok {K : PySem.W.Frag} {n : Nat} {i : Str} (r : RelP K F ρ n (.str i) w) : w = .str i := by rw [RelP] at r; exact r
theorem non_ok {K : PySem.W.Frag} {n : Nat} (r : RelP K F ρ n .non w) : w = .non := by rw [RelP] at r; exact r
theorem rel_int {K : PySem.W.Frag} {n : Nat} (i : Int) : RelP K F ρ n (.int i) (.int i) := by rw [RelP]
theorem rel_bl {K : PySem.W.Frag} {n : Nat} (i : Bool) : RelP K F ρ n (.bl i) (.bl i) := by rw [RelP]
theorem rel_str {K : PySem.W.Frag} {n : Nat} (i : Str) : RelP K F ρ n (.str i) (.str i) := by rw [RelP]
theorem rel_non {K : PySem.W.Frag} {n : Nat} : RelP K F ρ n .non .non := by rw [RelP]
end

/-! ### expressions -/
section
variable {X : Cx} {pos : Pos} {a b c e : Expr} {A B C : DE}
theorem snd_var {i : Nat} {x : Str} (hN : X.N[i]? = some x) (hv : Vis X.env.scope x) (hd : (x == ("__debug__" : Str)) = false) (hcd : (x == ("__classdict__" : Str)) = false) : SndE X (.Name x pos) (dVar i) := by
  intro F ρ env st v st' σ H Q W E h c
  unfold dVar at h
  split at h
  · rename_i u hu
    cases h
    obtain ⟨w, hw, r⟩ := E.2 i _ hu
    exact wE_of (pe_var hN hv hd hcd) ⟨w, hw, c.here W r⟩
  · cases h
theorem snd_frz {i : Nat} {x : Str} (hN : X.N[i]? = some x) (hv : Vis X.env.scope x) (hd : (x == ("__debug__" : Str)) = false) (hcd : (x == ("__classdict__" : Str)) = false) : SndE X (.Name x pos) (dFrz i) := by
  intro F ρ env st v st' σ H Q W E h c
  obtain ⟨u, st1, h1, h⟩ := mb_eq h
  unfold dVar at h1
  split at h1
  · rename_i u' hu
    cases h1
    obtain ⟨w, hw, r⟩ := E.2 i _ hu
    unfold frzL at h
    split at h
    · rename_i l
      split at h
      · rename_i cc hl
        cases h
        obtain ⟨F', P, r'⟩ := W.freeze hl
        rw [RelP] at r
        obtain ⟨_, rfl⟩ := r
        exact wE_of (pe_var hN hv hd hcd) ⟨_, hw, c _ _ _ _ P r'⟩
      · cases h
    · cases h
  · cases h1
theorem snd_int {i : Int} {j : Nat} : SndE X (.Constant (.int i) j pos) (dCst (.int i)) := by
  intro F ρ env st v st' σ H Q W E h c
  cases h
  exact wE_of pe_int (c.here W (rel_int _))
theorem snd_bl {i : Bool} {j : Nat} : SndE X (.Constant (.bool i) j pos) (dCst (.bl i)) := by
  intro F ρ env st v st' σ H Q W E h c
  cases h
  exact wE_of pe_bl (c.here W (rel_bl _))
theorem snd_str {i : Str} {j : Nat} : SndE X (.Constant (.str i) j pos) (dCst (.str i)) := by
  intro F ρ env st v st' σ H Q W E h c
  cases h
  exact wE_of pe_str (c.here W (rel_str _))
theorem snd_non {j : Nat} : SndE X (.Constant .none j pos) (dCst .non) := by
  intro F ρ env st v st' σ H Q W E h c
  cases h
  exact wE_of pe_non (c.here W rel_non)
/-- two in a row -/
theorem two (ha : SndE X a A) (hb : SndE X b B) {F : Hp} {ρ : Nat → Addr} {env : Env} {st : Sto} {σ : L2.St} {H : Hp} {v : PV} {st' : Sto} {f : PV → PV → M PV} {R : V → V → Hp → Prop}
    (W : Wld X.K F ρ st H) (E : ERel X.K F ρ st.nxt env σ) (h : dBin f A B env st = some (v, st'))
    (c : ∀ F' ρ' x y w1 w2 st2 H', Pst X.K F ρ st H F' ρ' st2 H' → RelP X.K F' ρ' st2.nxt x w1 → RelP X.K F' ρ' st2.nxt y w2 → f x y st2 = some (v, st') → R w1 w2 H') :
    wE X a σ H fun x H1 => wE X b σ H1 fun y H2 => R x y H2 := by
  obtain ⟨x, st1, h1, h⟩ := mb_eq h
  obtain ⟨y, st2, h2, h⟩ := mb_eq h
  refine ha F ρ env st x st1 σ H _ W E h1 fun F1 ρ1 w1 H1 p1 r1 => ?_
  refine hb F1 ρ1 env st1 y st2 σ H1 _ p1.wld (E.step p1) h2 fun F2 ρ2 w2 H2 p2 r2 => ?_
  exact c F2 ρ2 x y w1 w2 st2 H2 (p1.trans p2) (r1.step p2) r2 h
theorem snd_bin {op : Operator} {f : PV → PV → M PV} (ho : SndO X (binaryOp op) f) (ha : SndE X a A) (hb : SndE X b B) : SndE X (.BinOp a op b pos) (dBin f A B) := by
  intro F ρ env st v st' σ H Q W E h c
  refine wE_of (pe_op opr_w pe_w pe_w) ?_
  exact two ha hb W E h fun F' ρ' x y w1 w2 st2 H' p r1 r2 h => ho F' ρ' st2 x y w1 w2 v st' H' Q p.wld r1 r2 h (Ct.of p c)
theorem snd_cmp {op : CmpOp} {f : PV → PV → M PV} (ho : SndO X (compareOp op) f) (ha : SndE X a A) (hb : SndE X b B) (hm : behindInMarks op b = false) : SndE X (.Compare a [op] [b] pos) (dBin f A B) := by
  intro F ρ env st v st' σ H Q W E h c
  refine wE_of (pe_cmpR opr_w pe_w pe_w hm) ?_
  exact two ha hb W E h fun F' ρ' x y w1 w2 st2 H' p r1 r2 h => ho F' ρ' st2 x y w1 w2 v st' H' Q p.wld r1 r2 h (Ct.of p c)
theorem tst_cmp {op : CmpOp} {f : PV → PV → M PV} (ho : SndO X (compareOp op) f) (ha : SndE X a A) (hb : SndE X b B) (hm : behindInMarks op b = false) : SndT X (.Compare a [op] [b] pos) (tVal (dBin f A B)) := by
  intro F ρ env st v st' σ H Q W E h c
  obtain ⟨z, st3, h, h3⟩ := mb_eq h
  refine wT_of (pt_cmpR opr_w pe_w pe_w hm) ?_
  refine two ha hb W E h fun F' ρ' x y w1 w2 st2 H' p r1 r2 h => ho F' ρ' st2 x y w1 w2 z st3 H' _ p.wld r1 r2 h fun F3 ρ3 w H3 p3 r3 => ?_
  obtain ⟨rfl, rfl⟩ := asB_eq h3
  exact ⟨_, bl_ok r3, c F3 ρ3 H3 (p.trans p3)⟩
theorem snd_un {op : UnaryOp} {f : PV → M PV} (ho : SndU X (unaryOp op) f) (ha : SndE X a A) : SndE X (.UnaryOp op a pos) (dUn f A) := by
  intro F ρ env st v st' σ H Q W E h c
  obtain ⟨x, st1, h1, h⟩ := mb_eq h
  refine wE_of (pe_un unr_w pe_w) ?_
  exact ha F ρ env st x st1 σ H _ W E h1 fun F1 ρ1 w1 H1 p1 r1 => ho F1 ρ1 st1 x w1 v st' H1 Q p1.wld r1 h (Ct.of p1 c)
theorem isNon_ok {K : PySem.W.Frag} {F : Hp} {ρ : Nat → Addr} {n : Nat} {x : PV} {w : V} (r1 : RelP K F ρ n x w) : decide (w = .non) = isNonP x := by
  cases x with
  | non => rw [non_ok r1]; rfl
  | bl b => rw [bl_ok r1]; rfl
  | int b => rw [int_ok r1]; rfl
  | str b => rw [str_ok r1]; rfl
  | tup _ => rw [RelP] at r1; obtain ⟨_, _, rfl, _⟩ := r1; rfl
  | lst _ => rw [RelP] at r1; obtain ⟨_, _, rfl, _⟩ := r1; rfl
  | ro _ => rw [RelP] at r1; obtain ⟨_, _, rfl, _⟩ := r1; rfl
  | dct _ _ => rw [RelP] at r1; obtain ⟨_, _, _, _, rfl, _⟩ := r1; rfl
  | dki _ _ => rw [RelP] at r1; obtain ⟨_, _, rfl, _⟩ := r1; rfl
  | loc _ => rw [RelP] at r1; obtain ⟨_, rfl⟩ := r1; rfl
def isOp (neg : Bool) : CmpOp := if neg then .IsNot else .Is
theorem snd_isN {neg : Bool} {j : Nat} {p2 : Pos} (ha : SndE X a A) : SndE X (.Compare a [isOp neg] [.Constant .none j p2] pos) (dUn (cmpIsN neg) A) := by
  intro F ρ env st v st' σ H Q W E h c
  obtain ⟨x, st1, h1, h⟩ := mb_eq h
  cases h
  have fin : ∀ F1 ρ1 w1 H1, Pst X.K F ρ st H F1 ρ1 st' H1 → RelP X.K F1 ρ1 st'.nxt x w1 → Q (.bl (decide (w1 = .non) != neg)) H1 := fun F1 ρ1 w1 H1 p1 r1 => by
    rw [isNon_ok r1]
    exact (Ct.of p1 c).here p1.wld (rel_bl _)
  cases neg with
  | false =>
    refine wE_of (pe_cmp (pc_isN pe_w) rfl) ?_
    refine ha F ρ env st x st' σ H _ W E h1 fun F1 ρ1 w1 H1 p1 r1 => ?_
    have := fin F1 ρ1 w1 H1 p1 r1
    rw [Bool.bne_false] at this
    exact this
  | true =>
    refine wE_of (pe_cmp (pc_notN pe_w) rfl) ?_
    refine ha F ρ env st x st' σ H _ W E h1 fun F1 ρ1 w1 H1 p1 r1 => ?_
    have := fin F1 ρ1 w1 H1 p1 r1
    rw [Bool.bne_true] at this
    exact this
/-- an expression that gives True or False, as a test -/
theorem tst_val (he : ∀ whole, isTrue e X.env whole = (do let v ← whole; standAt e.pos; holding [v] (truthy v))) {D : DE} (h : SndE X e D) : SndT X e (tVal D) := by
  intro F ρ env st v st' σ H Q W E h0 c
  obtain ⟨z, st3, h0, h3⟩ := mb_eq h0
  refine wT_of (pt_val pe_w he) ?_
  refine h F ρ env st z st3 σ H _ W E h0 fun F3 ρ3 w H3 p3 r3 => ?_
  obtain ⟨rfl, rfl⟩ := asB_eq h3
  exact ⟨_, bl_ok r3, c F3 ρ3 H3 p3⟩
theorem tst_isN {neg : Bool} {j : Nat} {p2 : Pos} (ha : SndE X a A) : SndT X (.Compare a [isOp neg] [.Constant .none j p2] pos) (tVal (dUn (cmpIsN neg) A)) := by
  intro F ρ env st v st' σ H Q W E h0 c
  obtain ⟨z, st3, h0, h3⟩ := mb_eq h0
  obtain ⟨x, st1, h1, h⟩ := mb_eq h0
  cases h
  cases h3
  cases neg with
  | false =>
    refine wT_of (pt_cmp (pc_isN pe_w) rfl) ?_
    refine ha F ρ env st x st' σ H _ W E h1 fun F1 ρ1 w1 H1 p1 r1 => ⟨_, rfl, ?_⟩
    have := c F1 ρ1 H1 p1
    rw [Bool.bne_false] at this
    rw [isNon_ok r1]
    exact this
  | true =>
    refine wT_of (pt_cmp (pc_notN pe_w) rfl) ?_
    refine ha F ρ env st x st' σ H _ W E h1 fun F1 ρ1 w1 H1 p1 r1 => ⟨_, rfl, ?_⟩
    have := c F1 ρ1 H1 p1
    rw [Bool.bne_true] at this
    rw [isNon_ok r1]
    exact this

/-! and, or, not -/
theorem w_and1 {D : DT} (h : SndT X a D) : SndW X (.BoolOp .And [a] pos) D := fun F ρ env st v st' σ H Q W E h0 c => wW_of (pw_and1 pt_w) (h F ρ env st v st' σ H Q W E h0 c)
theorem w_or1 {D : DT} (h : SndT X a D) : SndW X (.BoolOp .Or [a] pos) D := fun F ρ env st v st' σ H Q W E h0 c => wW_of (pw_or1 pt_w) (h F ρ env st v st' σ H Q W E h0 c)
theorem w_and {D D' : DT} {rest : List Expr} (h : SndT X a D) (h' : SndW X (.BoolOp .And (b :: rest) pos) D') : SndW X (.BoolOp .And (a :: b :: rest) pos) (tAnd D D') := fun F ρ env st v st' σ H Q W E h0 c => by
  obtain ⟨x, st1, h1, h2⟩ := mb_eq h0
  refine wW_of (pw_and pt_w pw_w) (h F ρ env st x st1 σ H _ W E h1 fun F1 ρ1 H1 p1 => ?_)
  cases x with
  | true => exact h' F1 ρ1 env st1 v st' σ H1 Q p1.wld (E.step p1) h2 fun F2 ρ2 H2 p2 => c F2 ρ2 H2 (p1.trans p2)
  | false => cases h2; exact c F1 ρ1 H1 p1
theorem w_or {D D' : DT} {rest : List Expr} (h : SndT X a D) (h' : SndW X (.BoolOp .Or (b :: rest) pos) D') : SndW X (.BoolOp .Or (a :: b :: rest) pos) (tOr D D') := fun F ρ env st v st' σ H Q W E h0 c => by
  obtain ⟨x, st1, h1, h2⟩ := mb_eq h0
  refine wW_of (pw_or pt_w pw_w) (h F ρ env st x st1 σ H _ W E h1 fun F1 ρ1 H1 p1 => ?_)
  cases x with
  | false => exact h' F1 ρ1 env st1 v st' σ H1 Q p1.wld (E.step p1) h2 fun F2 ρ2 H2 p2 => c F2 ρ2 H2 (p1.trans p2)
  | true => cases h2; exact c F1 ρ1 H1 p1
theorem SndW.t {D : DT} (h : SndW X e D) : SndT X e D := fun F ρ env st v st' σ H Q W E h0 c => wT_of (PW.pt pw_w) (h F ρ env st v st' σ H Q W E h0 c)
theorem tst_not {D : DT} (h : SndT X a D) : SndT X (.UnaryOp .Not a pos) (tNot D) := fun F ρ env st v st' σ H Q W E h0 c => by
  obtain ⟨x, st1, h1, h2⟩ := mb_eq h0
  cases h2
  exact wT_of (pt_not pt_w) (h F ρ env st x st' σ H _ W E h1 fun F1 ρ1 H1 p1 => c F1 ρ1 H1 p1)
theorem snd_one {op : BoolOp} {D : DE} (h : SndE X a D) : SndE X (.BoolOp op [a] pos) D := fun F ρ env st v st' σ H Q W E h0 c => wE_of (pe_one pe_w) (h F ρ env st v st' σ H Q W E h0 c)
theorem snd_and {rest : List Expr} (h : SndE X a A) (h' : SndE X (.BoolOp .And (b :: rest) pos) B) : SndE X (.BoolOp .And (a :: b :: rest) pos) (dAnd A B) := fun F ρ env st v st' σ H Q W E h0 c => by
  obtain ⟨x, st1, h1, h2⟩ := mb_eq h0
  obtain ⟨k, st2, h3, h2⟩ := mb_eq h2
  obtain ⟨rfl, rfl⟩ := asB_eq h3
  refine wE_of (pe_and pe_w pe_w) (h F ρ env st _ st1 σ H _ W E h1 fun F1 ρ1 w1 H1 p1 r1 => ?_)
  refine ⟨k, bl_ok r1, ?_⟩
  cases k with
  | true => exact h' F1 ρ1 env st1 v st' σ H1 Q p1.wld (E.step p1) h2 (Ct.of p1 c)
  | false => cases h2; exact (Ct.of p1 c).here p1.wld (rel_bl _)
theorem snd_or {rest : List Expr} (h : SndE X a A) (h' : SndE X (.BoolOp .Or (b :: rest) pos) B) : SndE X (.BoolOp .Or (a :: b :: rest) pos) (dOr A B) := fun F ρ env st v st' σ H Q W E h0 c => by
  obtain ⟨x, st1, h1, h2⟩ := mb_eq h0
  obtain ⟨k, st2, h3, h2⟩ := mb_eq h2
  obtain ⟨rfl, rfl⟩ := asB_eq h3
  refine wE_of (pe_or pe_w pe_w) (h F ρ env st _ st1 σ H _ W E h1 fun F1 ρ1 w1 H1 p1 r1 => ?_)
  refine ⟨k, bl_ok r1, ?_⟩
  cases k with
  | false => exact h' F1 ρ1 env st1 v st' σ H1 Q p1.wld (E.step p1) h2 (Ct.of p1 c)
  | true => cases h2; exact (Ct.of p1 c).here p1.wld (rel_bl _)
theorem snd_notV (h : SndE X a A) : SndE X (.UnaryOp .Not a pos) (dUn opNot A) := fun F ρ env st v st' σ H Q W E h0 c => by
  obtain ⟨x, st1, h1, h2⟩ := mb_eq h0
  refine wE_of (pe_not pe_w) (h F ρ env st x st1 σ H _ W E h1 fun F1 ρ1 w1 H1 p1 r1 => ?_)
  unfold opNot at h2
  split at h2
  · cases h2
    exact ⟨_, bl_ok r1, (Ct.of p1 c).here p1.wld (rel_bl _)⟩
  · cases h2

/-! arguments, displays -/
theorem snd_anil : SndA X [] aNil := fun F ρ env st v st' σ H Q W E h c => by
  cases h
  exact wA_of pa_nil (c F ρ _ H (Pst.refl W) .nil)
theorem snd_acons {es : List Expr} {D : DA} (hs : starEach (e :: es) X.env = (false, eval e X.env) :: starEach es X.env) (he : SndE X e A) (hr : SndA X es D) : SndA X (e :: es) (aCons A D) := fun F ρ env st v st' σ H Q W E h c => by
  obtain ⟨x, st1, h1, h⟩ := mb_eq h
  obtain ⟨xs, st2, h2, h⟩ := mb_eq h
  cases h
  refine wA_of (pa_cons pe_w pa_w hs) (he F ρ env st x st1 σ H _ W E h1 fun F1 ρ1 w1 H1 p1 r1 => ?_)
  exact hr F1 ρ1 env st1 xs st' σ H1 _ p1.wld (E.step p1) h2 fun F2 ρ2 w2 H2 p2 r2 => c F2 ρ2 _ H2 (p1.trans p2) (.cons (r1.step p2) r2)
theorem snd_tup {es : List Expr} {D : DA} {k : Nat} (h : SndA X es D) : SndE X (.Tuple es k pos) (dTup D) := fun F ρ env st v st' σ H Q W E h0 c => by
  obtain ⟨xs, st1, h1, h2⟩ := mb_eq h0
  refine wE_of (pe_tup pa_w) (h F ρ env st xs st1 σ H _ W E h1 fun F1 ρ1 w1 H1 p1 r1 => ?_)
  exact mkT_ok p1.wld r1 h2 (Ct.of p1 c)
theorem snd_lst {es : List Expr} {D : DA} {m : Bool} (h : SndA X es D) : SndE X (.List es pos) (dLst m D) := fun F ρ env st v st' σ H Q W E h0 c => by
  obtain ⟨xs, st1, h1, h2⟩ := mb_eq h0
  refine wE_of (pe_lst pa_w) (h F ρ env st xs st1 σ H _ W E h1 fun F1 ρ1 w1 H1 p1 r1 => ?_)
  exact mkL_ok p1.wld r1 h2 (Ct.of p1 c)
theorem snd_ix (hix : PlainIx b) (ha : SndE X a A) (hb : SndE X b B) {f : PV → PV → M PV} (hf : SndIx X f) : SndE X (.Subscript a b pos) (dBin f A B) := by
  intro F ρ env st v st' σ H Q W E h c
  refine wE_of (pe_ix ix_w pe_w pe_w hix) ?_
  exact two ha hb W E h fun F' ρ' x y w1 w2 st2 H' p r1 r2 h => hf F' ρ' st2 x y w1 w2 v st' H' Q p.wld r1 r2 h (Ct.of p c)
end
end DL

/-! DLD: dicts whose keys are tuples. -/
namespace DL
open PySem PySem.Spec PyProof.Rows L2

/-! ### hashes of keys without texts are the same in every world -/
mutual
theorem hash_w {w w' : World} : ∀ {k : NestedKey}, noText k = true → k.hash w = k.hash w'
  | .none, _ => by rw [NestedKey.hash, NestedKey.hash]
  | .num _, _ => by rw [NestedKey.hash, NestedKey.hash]
  | .text _, h => by rw [noText] at h; cases h
  | .tup ks, h => by rw [noText] at h; rw [NestedKey.hash, NestedKey.hash, hashes_w h]
theorem hashes_w {w w' : World} : ∀ {ks : List NestedKey}, noTexts ks = true → NestedKey.hashes w ks = NestedKey.hashes w' ks
  | [], _ => by rw [NestedKey.hashes, NestedKey.hashes]
  | k :: r, h => by
    rw [noTexts, Bool.and_eq_true] at h
    rw [NestedKey.hashes, NestedKey.hashes, hash_w h.1, hashes_w h.2]
end
section
variable {X : Cx} {pins : List (Addr × Obj)} {σ : L2.St} {s : Shared} {F : Hp} {ρ : Nat → Addr} {n : Nat} {st st' : Sto} {H : Hp} {x v k : PV} {w : V} {ks vs : List PV} {kws vws : List V} {Q : VK}
/-- a dict lies somewhere -/
theorem dct_ok (W : Wld X.K F ρ st H) (r : RelP X.K F ρ st.nxt x w) (h : dctOf st x = some (ks, vs)) : ∃ a ob kws vws, w = .ref a ∧ H a = some (dO a ob) ∧ RelPs X.K F ρ st.nxt ks kws ∧ RelPs X.K F ρ st.nxt vs vws ∧ DObj a ks kws vws ob := by
  unfold dctOf at h
  split at h
  · cases h
    rw [RelP] at r
    obtain ⟨a, ob, kws, vws, e, q, r1, r2, d⟩ := r
    exact ⟨a, ob, kws, vws, e, W.sub _ _ q, r1, r2, d⟩
  · rename_i l
    rw [RelP] at r
    obtain ⟨q, rfl⟩ := r
    split at h
    · rename_i hl
      cases h
      obtain ⟨_, ob, kws, vws, e, r1, r2, d⟩ := W.cell l _ hl
      exact ⟨_, ob, kws, vws, rfl, e, r1, r2, d⟩
    · cases h
  · cases h
theorem dO_at {a : Addr} {ob : Obj} (I : Inv X pins σ H s) (h : H a = some (dO a ob)) : s.heap.get? a = some ob := (I.hok a _ h).1
theorem dO_ok {P : Program} {w : World} {H : Hp} {h : Heap} {a : Addr} {ob : Obj} (e : h.get? a = some ob) : ObjOk P w H h a (dO a ob) := ⟨e, ⟨_, e⟩, fun h1 h2 e1 k => k _ e1⟩
mutual
/-- a key's value is that key to the library -/
theorem nested_ok (I : Inv X pins σ H s) (sub : Sub F H) : ∀ {k : PV} {nk : NestedKey} {w : V} {u : Value}, NK k = some nk → RelP X.K F ρ n k w → RelV w u → NestedIs s.heap nk u
  | .int i, _, _, _, e, r, ru => by
    rw [NK] at e; cases e
    rw [RelP] at r; subst r
    obtain ⟨t, rfl⟩ := ru
    exact .int i t
  | .non, _, _, _, e, r, ru => by
    rw [NK] at e; cases e
    rw [RelP] at r; subst r
    cases ru
    exact .none
  | .str x, _, _, _, e, r, ru => by
    rw [NK] at e; cases e
    rw [RelP] at r; subst r
    obtain ⟨t, rfl⟩ := ru
    exact .text x t
  | .tup xs, _, _, _, e, r, ru => by
    rw [NK] at e
    cases q : NKs xs with
    | none => rw [q] at e; cases e
    | some nks =>
      rw [q] at e; cases e
      rw [RelP] at r
      obtain ⟨a, ws, rfl, t, r⟩ := r
      cases ru
      obtain ⟨its, rv, ⟨o, h1, h2, m, h3⟩, _⟩ := I.tuple (sub.sqT t)
      exact .tup h1 h2 h3 (nesteds_ok I sub q r rv)
  | .bl _, _, _, _, e, _, _ => by rw [NK] at e; cases e
  | .lst _, _, _, _, e, _, _ => by rw [NK] at e; cases e
  | .ro _, _, _, _, e, _, _ => by rw [NK] at e; cases e
  | .dct _ _, _, _, _, e, _, _ => by rw [NK] at e; cases e
  | .loc _, _, _, _, e, _, _ => by rw [NK] at e; cases e
theorem nesteds_ok (I : Inv X pins σ H s) (sub : Sub F H) : ∀ {xs : List PV} {nks : List NestedKey} {ws : List V} {us : List Value}, NKs xs = some nks → RelPs X.K F ρ n xs ws → Vals ws us → NestedAll s.heap nks us
  | [], _, _, _, e, r, ru => by
    rw [NKs] at e; cases e
    rw [r.inv0] at ru
    cases ru
    exact .nil
  | x :: xs, _, _, _, e, r, ru => by
    rw [NKs] at e
    cases q : NK x with
    | none => rw [q] at e; cases e
    | some nk =>
      cases q2 : NKs xs with
      | none => rw [q, q2] at e; cases e
      | some nks =>
        rw [q, q2] at e; cases e
        obtain ⟨w, ws, rfl, r1, r2⟩ := r.inv
        cases ru with
        | cons h t => exact .cons (nested_ok I sub q r1 h) (nesteds_ok I sub q2 r2 t)
end
/-- the entries as the library tells them -/
theorem ents_ok {P : Program} {wd : World} (I : Inv X pins σ H s) (sub : Sub F H) : ∀ {ks : List PV} {kws vws : List V} {es : List DictEntry}, EsR ks kws vws es → RelPs X.K F ρ n ks kws →
    ∃ xs : List (NestedKey × Addr × Value), es = xs.map (entryOfKey (nestedKind P wd)) ∧ (∀ x ∈ xs, (nestedKind P wd).is s.heap x.1 x.2.1) ∧ ks.map NK = xs.map (fun x => some x.1) ∧ Vals vws (xs.map (·.2.2)) ∧ xs.length = ks.length
  | [], _, _, _, h, _ => by
    obtain ⟨_, rfl, rfl⟩ := h
    exact ⟨[], rfl, fun x (z : x ∈ []) => (by cases z), rfl, Paired.nil, rfl⟩
  | k :: ks, _, _, _, h, r => by
    obtain ⟨a, as, b, bs, e, es, rfl, rfl, rfl, ⟨nk, h1, h2, h3⟩, h4, h5, h⟩ := h
    obtain ⟨w, ws, e0, r1, r2⟩ := r.inv
    cases e0
    obtain ⟨xs, x1, x2, x3, x4, x5⟩ := ents_ok I sub h r2
    obtain ⟨nk', g1, g2, g3⟩ := isTK_nk h2
    rw [h1] at g1; cases g1
    have hn := nested_ok I sub h1 r1 h4
    obtain ⟨c, hc⟩ : ∃ c, e.key = .ref c := by
      cases k with
      | tup ys =>
        rw [RelP] at r1
        obtain ⟨c, _, rfl, _⟩ := r1
        exact ⟨c, h4⟩
      | _ => cases h2
    rw [hc] at hn
    refine ⟨(nk, c, e.val) :: xs, ?_, fun x z => ?_, ?_, .cons h5 x4, by rw [List.length_cons, List.length_cons, x5]⟩
    · rw [List.map_cons, ← x1]
      congr 1
      show e = ⟨nk.hash wd, .ref c, e.val⟩
      rw [← h3 wd, ← hc]
    · rcases List.mem_cons.mp z with rfl | z
      · exact ⟨hn, g3⟩
      · exact x2 x z
    · rw [List.map_cons, List.map_cons, h1, x3]
theorem nodup_of_map {α β : Type} {f : α → β} : ∀ {l : List α}, (l.map f).Nodup → l.Nodup
  | [], _ => .nil
  | x :: l, h => by
    rw [List.map_cons, List.nodup_cons] at h
    rw [List.nodup_cons]
    exact ⟨fun z => h.1 (List.mem_map.mpr ⟨x, z, rfl⟩), nodup_of_map h.2⟩
theorem keyed_ok {a : Addr} {ob : Obj} (P : Program) (wd : World) (I : Inv X pins σ H s) (sub : Sub F H) (hH : H a = some (dO a ob)) (d : DObj a ks kws vws ob) (r : RelPs X.K F ρ n ks kws) :
    ∃ xs : List (NestedKey × Addr × Value), s.heap.DictOfH (nestedKind P wd) a xs ∧ ks.map NK = xs.map (fun x => some x.1) ∧ Vals vws (xs.map (·.2.2)) ∧ xs.length = ks.length := by
  obtain ⟨hx, ⟨es, ep, hd, he⟩, _, _, nd⟩ := d
  obtain ⟨xs, x1, x2, x3, x4, x5⟩ := ents_ok (P := P) (wd := wd) I sub he r
  refine ⟨xs, ⟨ob, es, ep, dO_at I hH, hx, hd, x1, x2, ?_⟩, x3, x4, x5⟩
  rw [x3] at nd
  have : xs.map (fun x => some x.1) = (xs.map (·.1)).map some := by rw [List.map_map]; rfl
  rw [this] at nd
  exact nodup_of_map nd
theorem keyEq_iff {a b : PV} {x y : NestedKey} (ha : NK a = some x) (hb : NK b = some y) : keyEq a b = decide (x = y) := by
  unfold keyEq
  rw [ha, hb]
/-- looking up -/
theorem look_ok {P : Program} {wd : World} {k : PV} {nk : NestedKey} (hk : NK k = some nk) : ∀ {ks vs : List PV} {vws : List V} {xs : List (NestedKey × Addr × Value)}, ks.map NK = xs.map (fun x => some x.1) → RelPs X.K F ρ n vs vws → Vals vws (xs.map (·.2.2)) → vs.length = ks.length →
    (dlook ks vs k = none ∧ atKey xs nk = none) ∨ ∃ v w p, dlook ks vs k = some v ∧ atKey xs nk = some p ∧ RelP X.K F ρ n v w ∧ RelV w p.2
  | [], vs, _, xs, h1, _, _, _ => by
    cases xs with
    | nil => exact .inl ⟨rfl, rfl⟩
    | cons _ _ => cases h1
  | k' :: ks, [], _, _, _, _, _, hl => by cases hl
  | k' :: ks, v :: vs, vws, [], h1, _, _, _ => by cases h1
  | k' :: ks, v :: vs, vws, x :: xs, h1, r, h2, hl => by
    rw [List.map_cons, List.map_cons] at h1
    injection h1 with h1 h3
    obtain ⟨w, ws, rfl, r1, r2⟩ := r.inv
    rw [List.map_cons] at h2
    cases h2 with
    | cons hv h2 =>
      by_cases e : x.1 = nk
      · refine .inr ⟨v, w, x.2, ?_, ?_, r1, hv⟩
        · show (if keyEq k' k then some v else dlook ks vs k) = some v
          rw [keyEq_iff h1 hk, decide_eq_true e, if_pos rfl]
        · simp [atKey, List.find?_cons, e]
      · have e1 : dlook (k' :: ks) (v :: vs) k = dlook ks vs k := by
          show (if keyEq k' k then some v else dlook ks vs k) = _
          rw [keyEq_iff h1 hk, decide_eq_false e, if_neg (by decide)]
        have e2 : atKey (x :: xs) nk = atKey xs nk := by simp [atKey, List.find?_cons, e]
        rw [e1, e2]
        exact look_ok (P := P) (wd := wd) hk h3 r2 h2 (by rw [List.length_cons, List.length_cons] at hl; omega)
theorem goodK_iff {ks : List PV} {k : PV} : goodK ks k = true ↔ (∀ x ∈ ks, isTK x = true) ∧ isTK k = true := by
  unfold goodK
  rw [Bool.and_eq_true, List.all_eq_true]
/-- a key that is asked for -/
theorem key_ok (P : Program) (wd : World) (I : Inv X pins σ H s) (sub : Sub F H) {u : Value} (h : isTK k = true) (r : RelP X.K F ρ n k w) (ru : RelV w u) : ∃ nk b, NK k = some nk ∧ u = .ref b ∧ (nestedKind P wd).is s.heap nk b := by
  obtain ⟨nk, g1, g2, g3⟩ := isTK_nk h
  have hn := nested_ok I sub g1 r ru
  cases k with
  | tup ys =>
    rw [RelP] at r
    obtain ⟨c, _, rfl, _⟩ := r
    cases ru
    exact ⟨nk, c, g1, rfl, hn, g3⟩
  | _ => cases h
theorem dobj_len {a : Addr} {ob : Obj} (d : DObj a ks kws vws ob) (r : RelPs X.K F ρ n ks kws) (r2 : RelPs X.K F ρ n vs vws) : vs.length = ks.length := by
  obtain ⟨_, ⟨es, ep, _, he⟩, _⟩ := d
  have : ∀ {ks : List PV} {kws vws : List V} {es : List DictEntry}, EsR ks kws vws es → vws.length = ks.length := by
    intro ks
    induction ks with
    | nil => intro _ _ _ h; obtain ⟨_, rfl, _⟩ := h; rfl
    | cons k ks ih =>
      intro _ _ _ h
      obtain ⟨a, as, b, bs, e, r, _, rfl, _, _, _, _, h⟩ := h
      rw [List.length_cons, List.length_cons, ih h]
  rw [r2.length, this he]
/-- d[k] -/
theorem ixD_ok (hu : X.A.units + 65 < cLine) {y u : PV} {w1 w2 : V} (W : Wld X.K F ρ st H) (r1 : RelP X.K F ρ st.nxt x w1) (r2 : RelP X.K F ρ st.nxt y w2) (hd : dctOf st x = some (ks, vs)) (hk : goodK ks y = true) (hl : dlook ks vs y = some u) (c : Ct X.K F ρ st H u st Q) : wIx X w1 w2 H Q := by
  obtain ⟨a, ob, kws, vws, rfl, hH, rk, rv, d⟩ := dct_ok W r1 hd
  intro value slice pins s σ ov uv I ro ru hs
  cases ro
  obtain ⟨xs, dk, h1, h2, _⟩ := keyed_ok X.prog X.w I W.sub hH d rk
  obtain ⟨nk, b, g1, rfl, g2⟩ := key_ok X.prog X.w I W.sub (goodK_iff.mp hk).2 r2 ru
  rcases look_ok (P := X.prog) (wd := X.w) g1 h1 rv h2 (dobj_len d rk rv) with ⟨e, _⟩ | ⟨v', w', p, e1, e2, rr, rp⟩
  · rw [e] at hl; cases hl
  · rw [e1] at hl; cases hl
    exact tail_any dk.typeIs slot_dict_getitem.lookup (wpAny_getItem_heap (knd := nestedKind X.prog X.w) (show X.A.in1.units + 8 < cLine from (by show X.A.units + 1 + 8 < cLine; omega)) g2 dk e2 ⟨w', H, I.tok _, rp, c.here W rr⟩) hs
/-- k in d, k not in d -/
theorem inD_ok (hu : X.A.units + 65 < cLine) (neg : Bool) {y : PV} {w1 w2 : V} (W : Wld X.K F ρ st H) (r1 : RelP X.K F ρ st.nxt y w1) (r2 : RelP X.K F ρ st.nxt x w2) (hd : dctOf st x = some (ks, vs)) (hk : goodK ks y = true) (c : Ct X.K F ρ st H (.bl ((dlook ks vs y).isSome != neg)) st Q) : wR X (compareOp (if neg then .NotIn else .In)) w1 w2 H Q := by
  obtain ⟨a, ob, kws, vws, rfl, hH, rk, rv, d⟩ := dct_ok W r2 hd
  intro pins s σ uv ov I ru ro
  cases ro
  obtain ⟨xs, dk, h1, h2, _⟩ := keyed_ok X.prog X.w I W.sub hH d rk
  obtain ⟨nk, b, g1, rfl, g2⟩ := key_ok X.prog X.w I W.sub (goodK_iff.mp hk).2 r1 ru
  have e : (dlook ks vs y).isSome = (atKey xs nk).isSome := by
    rcases look_ok (P := X.prog) (wd := X.w) g1 h1 rv h2 (dobj_len d rk rv) with ⟨e1, e2⟩ | ⟨_, _, _, e1, e2, _, _⟩
    · rw [e1, e2]; rfl
    · rw [e1, e2]; rfl
  have hr : (nestedKind X.prog X.w).room X.A.in1 := by show X.A.units + 1 + 8 < cLine; omega
  cases neg with
  | true =>
    refine wpAny_notIn_heap (knd := nestedKind X.prog X.w) hr g2 d.2.2.1 dk ⟨.bl (!(atKey xs nk).isSome), H, I.tok _, rfl, ?_⟩
    rw [← e]
    have := c.here W (rel_bl (K := X.K) (F := F) (ρ := ρ) (n := st.nxt) ((dlook ks vs y).isSome != true))
    cases hh : (dlook ks vs y).isSome <;> rw [hh] at this <;> exact this
  | false =>
    refine wpAny_in_heap (knd := nestedKind X.prog X.w) hr g2 d.2.2.1 dk ⟨.bl (atKey xs nk).isSome, H, I.tok _, rfl, ?_⟩
    rw [← e]
    have := c.here W (rel_bl (K := X.K) (F := F) (ρ := ρ) (n := st.nxt) ((dlook ks vs y).isSome != false))
    cases hh : (dlook ks vs y).isSome <;> rw [hh] at this <;> exact this
/-- len(d) -/
theorem lenD_ok {w1 : V} (W : Wld X.K F ρ st H) (r1 : RelP X.K F ρ st.nxt x w1) (hd : dctOf st x = some (ks, vs)) (c : Ct X.K F ρ st H (.int ks.length) st Q) : wC X (.builtin "len") [w1] H Q := by
  obtain ⟨a, ob, kws, vws, rfl, hH, rk, rv, d⟩ := dct_ok W r1 hd
  intro pins s σ us I r
  obtain ⟨u, rfl, ru⟩ := vals1 r
  cases ru
  obtain ⟨xs, dk, h1, h2, h3⟩ := keyed_ok X.prog X.w I W.sub hH d rk
  have hz := d.2.2.2.1
  rw [sizeLine_eq] at hz
  refine call_len_dictH (knd := nestedKind X.prog X.w) d.2.2.1 dk (by rw [h3]; omega) ⟨.int ks.length, H, I.tok _, ⟨_, by rw [h3]⟩, c.here W (rel_int _)⟩

/-! d[k] = v -/
theorem storedH_eq {xs : List (NestedKey × Addr × Value)} {x : NestedKey × Addr × Value} {k : NestedKey} {a : Addr} {v : Value} (hn : ((x :: xs).map (·.1)).Nodup) (e : x.1 = k) : storedH (x :: xs) k a v = (x.1, x.2.1, v) :: xs := by
  rw [List.map_cons, List.nodup_cons] at hn
  have h1 : atKey (x :: xs) k = some x.2 := by simp [atKey, List.find?_cons, e]
  rw [storedH_old h1, List.map_cons]
  congr 1
  · show (if x.1 = k then (x.1, x.2.1, v) else x) = _
    rw [if_pos e]
  · exact map_putAt_of_not_mem xs k v (e ▸ hn.1)
theorem storedH_ne {xs : List (NestedKey × Addr × Value)} {x : NestedKey × Addr × Value} {k : NestedKey} {a : Addr} {v : Value} (e : ¬ x.1 = k) : storedH (x :: xs) k a v = x :: storedH xs k a v := by
  have h1 : atKey (x :: xs) k = atKey xs k := by simp [atKey, List.find?_cons, e]
  unfold storedH
  rw [h1]
  split
  · rw [List.map_cons]
    congr 1
    show (if x.1 = k then (x.1, x.2.1, v) else x) = _
    rw [if_neg e]
  · rfl
theorem dput_len : ∀ {ks vs : List PV} {k v : PV}, vs.length = ks.length → (dput ks vs k v).1.length ≤ ks.length + 1 ∧ (dput ks vs k v).2.length = (dput ks vs k v).1.length
  | [], [], _, _, _ => ⟨Nat.le_refl _, rfl⟩
  | [], _ :: _, _, _, h => by cases h
  | _ :: _, [], _, _, h => by cases h
  | k' :: ks, v' :: vs, k, v, h => by
    have h : vs.length = ks.length := by rw [List.length_cons, List.length_cons] at h; omega
    obtain ⟨h1, h2⟩ := dput_len (k := k) (v := v) h
    show (if keyEq k' k then (k' :: ks, v :: vs) else (k' :: (dput ks vs k v).1, v' :: (dput ks vs k v).2)).1.length ≤ _ ∧ (if keyEq k' k then (k' :: ks, v :: vs) else (k' :: (dput ks vs k v).1, v' :: (dput ks vs k v).2)).2.length = (if keyEq k' k then (k' :: ks, v :: vs) else (k' :: (dput ks vs k v).1, v' :: (dput ks vs k v).2)).1.length
    cases keyEq k' k
    · rw [if_neg (by decide)]
      show (dput ks vs k v).1.length + 1 ≤ ks.length + 1 + 1 ∧ (dput ks vs k v).2.length + 1 = (dput ks vs k v).1.length + 1
      omega
    · rw [if_pos rfl]
      show ks.length + 1 ≤ ks.length + 1 + 1 ∧ vs.length + 1 = ks.length + 1
      omega
theorem dput_lb {m : Nat} : ∀ {ks vs : List PV} {k v : PV}, lbs m ks = true → lbs m vs = true → k.lb m = true → v.lb m = true → lbs m (dput ks vs k v).1 = true ∧ lbs m (dput ks vs k v).2 = true
  | [], vs, k, v, _, _, h3, h4 => by
    show lbs m [k] = true ∧ lbs m [v] = true
    rw [lbs, lbs, lbs, lbs, h3, h4]; exact ⟨rfl, rfl⟩
  | _ :: _, [], k, v, _, _, h3, h4 => by
    show lbs m [k] = true ∧ lbs m [v] = true
    rw [lbs, lbs, lbs, lbs, h3, h4]; exact ⟨rfl, rfl⟩
  | k' :: ks, v' :: vs, k, v, h1, h2, h3, h4 => by
    rw [lbs, Bool.and_eq_true] at h1 h2
    obtain ⟨g1, g2⟩ := dput_lb h1.2 h2.2 h3 h4
    show lbs m (if keyEq k' k then (k' :: ks, v :: vs) else (k' :: (dput ks vs k v).1, v' :: (dput ks vs k v).2)).1 = true ∧ lbs m (if keyEq k' k then (k' :: ks, v :: vs) else (k' :: (dput ks vs k v).1, v' :: (dput ks vs k v).2)).2 = true
    cases keyEq k' k
    · rw [if_neg (by decide)]
      show lbs m (_ :: _) = true ∧ lbs m (_ :: _) = true
      rw [lbs, lbs, h1.1, h2.1, g1, g2]; exact ⟨rfl, rfl⟩
    · rw [if_pos rfl]
      show lbs m (_ :: _) = true ∧ lbs m (_ :: _) = true
      rw [lbs, lbs, h1.1, h1.2, h2.2, h4]; exact ⟨rfl, rfl⟩
theorem put_ok {P : Program} {wd : World} {k v : PV} {nk : NestedKey} {b : Addr} {wv : V} {u : Value} (hk : isTK k = true) (hnk : NK k = some nk) (rk : RelP X.K F ρ n k (.ref b)) (rv : RelP X.K F ρ n v wv) (ru : RelV wv u) :
    ∀ {ks vs : List PV} {kws vws : List V} {es : List DictEntry} {xs : List (NestedKey × Addr × Value)}, EsR ks kws vws es → es = xs.map (entryOfKey (nestedKind P wd)) → ks.map NK = xs.map (fun x => some x.1) → (xs.map (·.1)).Nodup → RelPs X.K F ρ n ks kws → RelPs X.K F ρ n vs vws →
    ∃ kws' vws', EsR (dput ks vs k v).1 kws' vws' ((storedH xs nk b u).map (entryOfKey (nestedKind P wd))) ∧ (dput ks vs k v).1.map NK = (storedH xs nk b u).map (fun x => some x.1) ∧ RelPs X.K F ρ n (dput ks vs k v).1 kws' ∧ RelPs X.K F ρ n (dput ks vs k v).2 vws'
  | [], vs, _, _, _, xs, h, he, h1, nd, r1, r2 => by
    obtain ⟨rfl, rfl, rfl⟩ := h
    cases xs with
    | cons _ _ => cases h1
    | nil =>
      have e : dput [] vs k v = ([k], [v]) := by cases vs <;> rfl
      rw [e]
      obtain ⟨nk', g1, g2, g3⟩ := isTK_nk hk
      rw [hnk] at g1; cases g1
      exact ⟨[.ref b], [wv], ⟨_, _, _, _, _, _, rfl, rfl, rfl, ⟨nk, hnk, hk, fun w => hash_w g2⟩, rfl, ru, rfl, rfl, rfl⟩, by rw [List.map_cons, hnk]; rfl, .cons rk .nil, .cons rv .nil⟩
  | k' :: ks, vs, _, _, _, [], h, he, h1, nd, r1, r2 => by cases h1
  | k' :: ks, [], _, _, _, x :: xs, h, he, h1, nd, r1, r2 => by
    obtain ⟨a, as, b', bs, e, es, _, rfl, _, _⟩ := h
    exact absurd r2.inv0 (by simp)
  | k' :: ks, v' :: vs, _, _, _, x :: xs, h, he, h1, nd, r1, r2 => by
    obtain ⟨a, as, b', bs, e, es, rfl, rfl, rfl, hx, h4, h5, h⟩ := h
    obtain ⟨w, ws, e0, q1, q2⟩ := r1.inv
    cases e0
    obtain ⟨w2, ws2, e0, q3, q4⟩ := r2.inv
    cases e0
    rw [List.map_cons, List.map_cons] at h1
    injection h1 with h1 h3
    rw [List.map_cons] at he
    injection he with he he2
    by_cases ek : x.1 = nk
    · have e1 : dput (k' :: ks) (v' :: vs) k v = (k' :: ks, v :: vs) := by
        show (if keyEq k' k then (k' :: ks, v :: vs) else _) = _
        rw [keyEq_iff h1 hnk, decide_eq_true ek, if_pos rfl]
      rw [e1, storedH_eq nd ek]
      refine ⟨a :: as, wv :: bs, ⟨_, _, _, _, _, _, rfl, rfl, rfl, ?_, ?_, ru, ?_⟩, ?_, .cons q1 q2, .cons rv q4⟩
      · obtain ⟨nk', y1, y2, y3⟩ := hx
        refine ⟨nk', y1, y2, fun w => ?_⟩
        rw [← y3 w, he]; rfl
      · rw [he] at h4; exact h4
      · rw [← he2]; exact h
      · rw [List.map_cons, List.map_cons, h1, h3]
    · have e1 : dput (k' :: ks) (v' :: vs) k v = (k' :: (dput ks vs k v).1, v' :: (dput ks vs k v).2) := by
        show (if keyEq k' k then (k' :: ks, v :: vs) else _) = _
        rw [keyEq_iff h1 hnk, decide_eq_false ek, if_neg (by decide)]
      rw [e1, storedH_ne ek]
      rw [List.map_cons, List.nodup_cons] at nd
      obtain ⟨kws', vws', z1, z2, z3, z4⟩ := put_ok hk hnk rk rv ru h he2 h3 nd.2 q2 q4
      refine ⟨a :: kws', b' :: vws', ⟨_, _, _, _, _, _, rfl, rfl, by rw [List.map_cons, ← he], hx, h4, h5, z1⟩, ?_, .cons q1 z3, .cons q3 z4⟩
      rw [List.map_cons, List.map_cons, h1, z2]
theorem nodup_some {α : Type} {l : List α} (h : l.Nodup) : (l.map some).Nodup := by
  rw [List.nodup_iff_pairwise_ne] at h ⊢
  rw [List.pairwise_map]
  exact h.imp fun {a b} q e => q (Option.some.inj e)
theorem setD_ok (hu : X.A.units + 65 < cLine) {l : Nat} {y : PV} {w2 w3 : V} {Qs : Hp → Prop} (W : Wld X.K F ρ st H) (hl : st.cs l = some (.dct ks vs)) (r2 : RelP X.K F ρ st.nxt y w2) (r3 : RelP X.K F ρ st.nxt v w3) (hk : goodK ks y = true) (hlb : v.lb st.nxt = true) (hz : ks.length < sizeLine)
    (c : ∀ F' ρ' H', Pst X.K F ρ st H F' ρ' (st.set l (.dct (dput ks vs y v).1 (dput ks vs y v).2)) H' → Qs H') : wSet X (.ref (ρ l)) w2 w3 H Qs := by
  obtain ⟨fl, ob, kws, vws, hH, rk, rv, d⟩ := W.cell l _ hl
  intro pins s σ ov uv zv I ro ru rz
  cases ro
  obtain ⟨hx, ⟨es, ep, hdat, he⟩, hs, hsz, nd⟩ := id d
  obtain ⟨xs, x1, x2, x3, x4, x5⟩ := ents_ok (P := X.prog) (wd := X.w) I W.sub he rk
  have ndx : (xs.map (·.1)).Nodup := by
    rw [x3] at nd
    have : xs.map (fun x => some x.1) = (xs.map (·.1)).map some := by rw [List.map_map]; rfl
    rw [this] at nd
    exact nodup_of_map nd
  have dk : s.heap.DictOfH (nestedKind X.prog X.w) (ρ l) xs := ⟨ob, es, ep, dO_at I hH, hx, hdat, x1, x2, ndx⟩
  obtain ⟨nk, b, g1, rfl, g2⟩ := key_ok X.prog X.w I W.sub (goodK_iff.mp hk).2 r2 ru
  have r2' : RelP X.K F ρ st.nxt y (.ref b) := by
    have hy := (goodK_iff.mp hk).2
    cases y with
    | tup ys =>
      rw [RelP] at r2 ⊢
      obtain ⟨c', vs', rfl, t, r⟩ := r2
      cases ru
      exact ⟨_, vs', rfl, t, r⟩
    | _ => cases hy
  have hlen : vs.length = ks.length := dobj_len d rk rv
  refine wpAny_setItem_heap (knd := nestedKind X.prog X.w) (show X.A.in1.units + 8 < cLine from (by show X.A.units + 1 + 8 < cLine; omega)) g2 dk (fun h' dk' hs' => ?_) (hsz := by rw [x5]; omega)
  obtain ⟨ob', es', ep', hg', hx', hd', he', his', nd'⟩ := dk'
  obtain ⟨kws', vws', z1, z2, z3, z4⟩ := put_ok (P := X.prog) (wd := X.w) (b := b) (u := zv) (goodK_iff.mp hk).2 g1 r2' r3 rz he x1 x3 ndx rk rv
  have dn : DObj (ρ l) (dput ks vs y v).1 kws' vws' ob' := by
    refine ⟨hx', ⟨es', ep', hd', by rw [he']; exact z1⟩, hs, Nat.le_trans (dput_len hlen).1 hz, ?_⟩
    rw [z2]
    have : (storedH xs nk b zv).map (fun x => some x.1) = ((storedH xs nk b zv).map (·.1)).map some := by rw [List.map_map]; rfl
    rw [this]
    exact nodup_some nd'
  have lbk : (Cell.dct (dput ks vs y v).1 (dput ks vs y v).2).lb st.nxt = true := by
    have hw := st.wc l _ hl
    have hw : (lbs st.nxt ks && lbs st.nxt vs) = true := hw
    rw [Bool.and_eq_true] at hw
    have hyl : y.lb st.nxt = true := PV.lb_mono (Nat.zero_le _) (nk_lb g1)
    obtain ⟨q1, q2⟩ := dput_lb (k := y) (v := v) hw.1 hw.2 hyl hlb
    show (lbs st.nxt _ && lbs st.nxt _) = true
    rw [q1, q2]; rfl
  have p := W.set hl lbk (o := dO (ρ l) ob') ⟨ob', kws', vws', rfl, z3, z4, dn⟩
  refine ⟨upd H (ρ l) (dO (ρ l) ob'), ?_, c _ _ _ p⟩
  exact d_write I (by rw [hH]; exact True.intro) hs' ⟨_, hg'⟩ (dO_ok hg')
/-- {} -/
theorem newD_ok {m : Bool} (W : Wld X.K F ρ st H) (h : mkD m [] [] st = some (v, st')) (c : Ct X.K F ρ st H v st' Q) (I : Inv X pins σ H s) : ∃ H', Inv X pins σ H' { s with heap := s.heap.push { cls := .type "dict", data := .dict #[] } } ∧ Q (.ref s.heap.objs.size) H' := by
  have hp : H s.heap.objs.size = none := I.hok.fresh (Nat.le_refl _)
  have hs : (s.heap.objs.size == sysModules) = false := by
    exact beq_eq_false_iff_ne.mpr (Nat.ne_of_gt I.big)
  have dn : DObj s.heap.objs.size [] [] [] { cls := .type "dict", data := .dict #[] } := ⟨⟨rfl, rfl, rfl⟩, ⟨#[], 0, rfl, rfl, rfl, rfl⟩, hs, Nat.zero_le _, .nil⟩
  refine ⟨upd H s.heap.objs.size (dO s.heap.objs.size { cls := .type "dict", data := .dict #[] }), I.laid (t' := s.toks) (fun _ _ q => Heap.get?_push_of_some _ q) (Nat.le_refl _) (dO_ok (Heap.get?_push_size _ rfl)), ?_⟩
  unfold mkD at h
  split at h
  · split at h
    · cases h
      refine c _ _ _ _ (W.alloc (c := .dct [] []) (o := dO s.heap.objs.size { cls := .type "dict", data := .dict #[] }) hp (by rw [Cell.lb, lbs]; rfl) ⟨_, [], [], rfl, .nil, .nil, dn⟩) ?_
      rw [RelP]
      exact ⟨by rw [Sto.alloc_nxt]; omega, by rw [if_pos rfl]⟩
    · cases h
  · cases h
    refine c _ _ _ _ (W.new (o := dO s.heap.objs.size { cls := .type "dict", data := .dict #[] }) hp) ?_
    rw [RelP]
    exact ⟨_, _, [], [], rfl, upd_same, .nil, .nil, dn⟩
theorem snd_dct0 {m : Bool} {pos : Pos} : SndE X (.Dict [] [] pos) (dDct0 m) := by
  intro F ρ env st v st' σ H Q W E h c
  intro pins s I
  refine wpAny_Dict_empty ?_
  obtain ⟨H', I', q⟩ := newD_ok W h c I
  exact ⟨.ref s.heap.objs.size, H', I', rfl, q⟩
/-- d.get(k, v) -/
theorem snd_get2 {o e f : Expr} {O K' V' : DE} {apos cpos : Pos} (hu : X.A.units + 65 < cLine) (ho : SndE X o O) (he : SndE X e K') (hf : SndE X f V') (m : M2 X o "get" apos e f cpos) : SndE X (.Call (.Attribute o "get" apos) [e, f] [] cpos) (dGet2 O K' V') := by
  intro F ρ env st v st' σ H Q W E h c
  unfold dGet2 at h
  obtain ⟨x, st1, h1, h⟩ := mb_eq h
  cases hd : dctOf st1 x with
  | none => rw [hd] at h; cases h
  | some kv =>
    rw [hd] at h
    obtain ⟨y, st2, h2, h⟩ := mb_eq h
    obtain ⟨z, st3, h3, h⟩ := mb_eq h
    cases hd3 : dctOf st3 x with
    | none => rw [hd3] at h; cases h
    | some kv3 =>
      obtain ⟨ks3, vs3⟩ := kv3
      rw [hd3] at h
      have h : (if goodK ks3 y then some ((dlook ks3 vs3 y).getD z, st3) else none) = some (v, st') := h
      split at h
      · rename_i hg
        cases h
        intro pins s I
        refine wpAny_Call_method m.base m.few m.line PySem.F.plainAttrs_dict PySem.F.slot_dict_get PySem.F.type_dict_get ?_
        have q1 := ho F ρ env st x st1 σ H (fun w1 H1 => ∃ F1 ρ1, Pst X.K F ρ st H F1 ρ1 st1 H1 ∧ RelP X.K F1 ρ1 st1.nxt x w1) W E h1 fun F1 ρ1 w1 H1 p1 r1 => ⟨F1, ρ1, p1, r1⟩
        refine thn (q1 pins s I) fun u s1 ⟨w1, H1, I1, rx, F1, ρ1, p1, r1⟩ => ?_
        obtain ⟨a, ob, kws, vws, rfl, hH, rk, rv, d⟩ := dct_ok p1.wld r1 (ks := kv.1) (vs := kv.2) hd
        obtain rfl : u = Value.ref a := rx
        have hg1 := dO_at I1 hH
        refine ⟨⟨ob, hg1, d.1.1⟩, fun b q => by cases q; exact ⟨ob, hg1, d.1.2.1⟩, ?_⟩
        rw [m.trees]
        have q2 := he F1 ρ1 env st1 y st2 σ H1 (fun w2 H2 => ∃ F2 ρ2, Pst X.K F1 ρ1 st1 H1 F2 ρ2 st2 H2 ∧ RelP X.K F2 ρ2 st2.nxt y w2) p1.wld (E.step p1) h2 fun F2 ρ2 w2 H2 p2 r2 => ⟨F2, ρ2, p2, r2⟩
        refine Calls.callWith_builtin rfl (Calls.evalArgs_plain (Calls.spliced_cons (thn (q2 pins s1 I1) fun iv s2 ⟨w2, H2, I2, ry, F2, ρ2, p2, r2⟩ => ?_)))
        have q3 := hf F2 ρ2 env st2 z st' σ H2 (fun w3 H3 => ∃ F3 ρ3, Pst X.K F2 ρ2 st2 H2 F3 ρ3 st' H3 ∧ RelP X.K F3 ρ3 st'.nxt z w3) p2.wld ((E.step p1).step p2) h3 fun F3 ρ3 w3 H3 p3 r3 => ⟨F3, ρ3, p3, r3⟩
        refine Calls.spliced_cons (thn (q3 pins s2 I2) fun fv s3 ⟨w3, H3, I3, rz, F3, ρ3, p3, r3⟩ => Calls.spliced_nil ?_)
        have rx3 := (r1.step p2).step p3
        obtain ⟨a3, ob3, kws3, vws3, e3, hH3, rk3, rv3, d3⟩ := dct_ok p3.wld rx3 hd3
        cases e3
        obtain ⟨xs, dk, g1, g2, _⟩ := keyed_ok X.prog X.w I3 p3.wld.sub hH3 d3 rk3
        obtain ⟨nk, b, k1, rfl, k2⟩ := key_ok X.prog X.w I3 p3.wld.sub (goodK_iff.mp hg).2 (r2.step p3) ry
        have P3 := (p1.trans p2).trans p3
        refine call_meetsIn PySem.F.slot_dict_get dk.typeIs PySem.F.entry_dict_get (PySem.F.args_dict_get_3 _ _ _) (meetsH_dict_get_default (nestedKind X.prog X.w) a b d3.2.2.1 fv) ⟨by show X.A.units + 1 + 8 < cLine; omega, nk, xs, k2, dk, ?_⟩
        rcases look_ok (P := X.prog) (wd := X.w) k1 g1 rv3 g2 (dobj_len d3 rk3 rv3) with ⟨e1, e2⟩ | ⟨v', w', p, e1, e2, rr, rp⟩
        · rw [e2]
          rw [e1] at c
          exact ⟨w3, H3, I3.tok _, rz, c F3 ρ3 w3 H3 P3 r3⟩
        · rw [e2]
          rw [e1] at c
          exact ⟨w', H3, I3.tok _, rp, c F3 ρ3 w' H3 P3 rr⟩
      · cases h
end
/-! dicts whose keys are ints -/
theorem kvI_len : ∀ {ks : List Int} {vws : List V}, ks.length = vws.length → (kvI ks vws).length = ks.length
  | [], _, _ => by rw [kvI] <;> first | rfl | (intro _ _ _ _ z; cases z)
  | k :: ks, [], h => by cases h
  | k :: ks, w :: vws, h => by rw [kvI, List.length_cons, List.length_cons, kvI_len (by simpa using h)]
theorem kvI_any {k : Int} : ∀ {ks : List Int} {vws : List V}, ks.length = vws.length → (kvI ks vws).any (fun kv => decide (kv.1 = (.inl k : Key))) = decide (k ∈ ks)
  | [], [], _ => by rw [kvI] <;> first | rfl | (intro _ _ _ _ z; cases z)
  | [], _ :: _, h => by cases h
  | _ :: _, [], h => by cases h
  | k' :: ks, w :: vws, h => by
    rw [kvI, List.any_cons, kvI_any (by simpa using h)]
    by_cases e : k' = k
    · subst e; simp
    · have e1 : ¬ (Sum.inl k' : Key) = .inl k := fun z => e (Sum.inl.inj z)
      have e2 : ¬ k = k' := fun z => e z.symm
      simp [e1, e2]
theorem kvI_map {k : Int} {w : V} : ∀ {ks : List Int} {vws : List V}, (kvI ks vws).map (fun kv => if kv.1 = (.inl k : Key) then (kv.1, w) else kv) = kvI ks (List.zipWith (fun a b => if a = k then w else b) ks vws)
  | [], vws => by simp [kvI]
  | _ :: _, [] => by simp [kvI]
  | k' :: ks, u :: vws => by
    rw [kvI, List.map_cons, kvI_map, List.zipWith_cons_cons, kvI]
    by_cases e : k' = k
    · subst e; rw [if_pos rfl, if_pos rfl]
    · rw [if_neg (fun z => e (Sum.inl.inj z)), if_neg e]
theorem kvI_append {k : Int} {w : V} : ∀ {ks : List Int} {vws : List V}, ks.length = vws.length → kvI (ks ++ [k]) (vws ++ [w]) = kvI ks vws ++ [(.inl k, w)]
  | [], [], _ => by simp [kvI]
  | [], _ :: _, h => by cases h
  | _ :: _, [], h => by cases h
  | k' :: ks, u :: vws, h => by
    rw [List.cons_append, List.cons_append, kvI, kvI, kvI_append (by simpa using h), List.cons_append]
theorem RelPs.zipIf {K : PySem.W.Frag} {F : Hp} {ρ : Nat → Addr} {n : Nat} {k : Int} {v : PV} {w : V} (r : RelP K F ρ n v w) : ∀ {ks : List Int} {vs : List PV} {vws : List V}, RelPs K F ρ n vs vws → RelPs K F ρ n (List.zipWith (fun a b => if a = k then v else b) ks vs) (List.zipWith (fun a b => if a = k then w else b) ks vws)
  | [], _, _, _ => .nil
  | _ :: _, [], _, h => by rw [h.inv0]; exact .nil
  | a :: ks, x :: vs, _, h => by
    obtain ⟨u, us, rfl, h1, h2⟩ := h.inv
    rw [List.zipWith_cons_cons, List.zipWith_cons_cons]
    refine .cons ?_ (RelPs.zipIf r h2)
    by_cases e : a = k
    · rw [if_pos e, if_pos e]; exact r
    · rw [if_neg e, if_neg e]; exact h1
theorem lbs_zipIf {m : Nat} {k : Int} {v : PV} (hv : v.lb m = true) : ∀ {ks : List Int} {vs : List PV}, lbs m vs = true → lbs m (List.zipWith (fun a b => if a = k then v else b) ks vs) = true
  | [], _, _ => by rw [List.zipWith_nil_left, lbs]
  | _ :: _, [], _ => by rw [List.zipWith_nil_right, lbs]
  | a :: ks, x :: vs, h => by
    rw [lbs, Bool.and_eq_true] at h
    rw [List.zipWith_cons_cons, lbs, lbs_zipIf hv h.2]
    by_cases e : a = k
    · rw [if_pos e, hv]; rfl
    · rw [if_neg e, h.1]; rfl
section
variable {X : Cx} {F : Hp} {ρ : Nat → Addr} {n : Nat} {st st' : Sto} {H : Hp} {x v : PV} {w : V} {ks : List Int} {vs : List PV} {vws : List V} {Q : VK}
theorem dki_ok (W : Wld X.K F ρ st H) (r : RelP X.K F ρ st.nxt x w) (h : dkiOf st x = some (ks, vs)) : ∃ a vws, w = .ref a ∧ H a = some (.dK (kvI ks vws)) ∧ ks.length = vs.length ∧ RelPs X.K F ρ st.nxt vs vws := by
  unfold dkiOf at h
  split at h
  · cases h
    rw [RelP] at r
    obtain ⟨a, vws, e, q, l, r⟩ := r
    exact ⟨a, vws, e, W.sub _ _ q, l, r⟩
  · rename_i l
    rw [RelP] at r
    obtain ⟨q, rfl⟩ := r
    split at h
    · rename_i hl
      cases h
      obtain ⟨_, vws, e, l, r⟩ := W.cell l _ hl
      exact ⟨_, vws, rfl, e, l, r⟩
    · cases h
  · cases h
theorem lookI_ok {K : PySem.W.Frag} {i : Int} : ∀ {ks : List Int} {vs : List PV} {vws : List V}, ks.length = vs.length → RelPs K F ρ n vs vws →
    (ilook ks vs i = none ∧ valV (kvI ks vws) (.inl i) = none) ∨ ∃ v w, ilook ks vs i = some v ∧ valV (kvI ks vws) (.inl i) = some w ∧ RelP K F ρ n v w
  | [], _, _, _, _ => .inl ⟨by unfold ilook; rfl, by rw [kvI] <;> first | rfl | (intro _ _ _ _ z; cases z)⟩
  | _ :: _, [], _, h, _ => by cases h
  | k :: ks, x :: vs, _, h, r => by
    obtain ⟨u, us, rfl, h1, h2⟩ := r.inv
    rw [ilook, kvI]
    by_cases e : k = i
    · subst e
      rw [if_pos rfl, valV_pos rfl]
      exact .inr ⟨x, u, rfl, rfl, h1⟩
    · rw [if_neg e, valV_neg (fun z => e (Sum.inl.inj z))]
      exact lookI_ok (by simpa using h) h2
theorem ixI_ok (hu : X.A.units + 65 < cLine) {i : Int} {u : PV} {w1 w2 : V} (W : Wld X.K F ρ st H) (r1 : RelP X.K F ρ st.nxt x w1) (r2 : RelP X.K F ρ st.nxt (.int i) w2) (hd : dkiOf st x = some (ks, vs)) (hl : ilook ks vs i = some u) (c : Ct X.K F ρ st H u st Q) : wIx X w1 w2 H Q := by
  obtain ⟨a, vws, rfl, hH, l, rv⟩ := dki_ok W r1 hd
  cases int_ok r2
  intro value slice pins s σ ov uv I ro ru hs
  cases ro
  rcases lookI_ok (i := i) l rv with ⟨e, _⟩ | ⟨v', w', e1, e2, rr⟩
  · rw [e] at hl; cases hl
  · rw [e1] at hl; cases hl
    have g : DGet H a (.int i) (some w') := .inl ⟨_, .inl i, .inl hH, rfl, e2.symm⟩
    exact tail_any (dict_typeIs I g) slot_dict_getitem.lookup (d_getItem (show X.A.units + 1 < cLine by omega) I g ru fun w'' s' I' rw' => ⟨w', H, I', rw', c.here W rr⟩) hs
theorem inI_ok (hu : X.A.units + 65 < cLine) (neg : Bool) {i : Int} {w1 w2 : V} (W : Wld X.K F ρ st H) (r1 : RelP X.K F ρ st.nxt (.int i) w1) (r2 : RelP X.K F ρ st.nxt x w2) (hd : dkiOf st x = some (ks, vs)) (c : Ct X.K F ρ st H (.bl ((ilook ks vs i).isSome != neg)) st Q) : wR X (compareOp (if neg then .NotIn else .In)) w1 w2 H Q := by
  obtain ⟨a, vws, rfl, hH, l, rv⟩ := dki_ok W r2 hd
  cases int_ok r1
  intro pins s σ uv ov I ru ro
  cases ro
  have g : DGet H a (.int i) (valV (kvI ks vws) (.inl i)) := .inl ⟨_, .inl i, .inl hH, rfl, rfl⟩
  have e : (ilook ks vs i).isSome = (valV (kvI ks vws) (.inl i)).isSome := by
    rcases lookI_ok (i := i) l rv with ⟨e1, e2⟩ | ⟨_, _, e1, e2, _⟩
    · rw [e1, e2]; rfl
    · rw [e1, e2]; rfl
  have := c.here W (rel_bl (K := X.K) (F := F) (ρ := ρ) (n := st.nxt) ((ilook ks vs i).isSome != neg))
  rw [e] at this
  cases neg with
  | true =>
    refine d_notIn (show X.A.units + 1 < cLine by omega) I g ru fun s3 I3 => ⟨.bl _, H, I3, rfl, ?_⟩
    rw [Bool.bne_true] at this
    exact this
  | false =>
    refine d_in (show X.A.units + 1 < cLine by omega) I g ru fun s3 I3 => ⟨.bl _, H, I3, rfl, ?_⟩
    rw [Bool.bne_false] at this
    exact this
theorem setI_ok (hu : X.A.units + 65 < cLine) {l : Nat} {i : Int} {w2 w3 : V} {Qs : Hp → Prop} (W : Wld X.K F ρ st H) (hl : st.cs l = some (.dki ks vs)) (r2 : RelP X.K F ρ st.nxt (.int i) w2) (r3 : RelP X.K F ρ st.nxt v w3) (hlb : v.lb st.nxt = true) (hz : ks.length < sizeLine)
    (c : ∀ F' ρ' H', Pst X.K F ρ st H F' ρ' (st.set l (.dki (iput ks vs i v).1 (iput ks vs i v).2)) H' → Qs H') : wSet X (.ref (ρ l)) w2 w3 H Qs := by
  obtain ⟨fl, vws, hH, ll, rv⟩ := W.cell l _ hl
  cases int_ok r2
  have hlw : ks.length = vws.length := ll.trans rv.length
  have hw : lbs st.nxt vs = true := st.wc l _ hl
  refine wSet_of (set_dict (show X.A.units + 1 < cLine by omega)) ⟨_, _, rfl, .inl ⟨kvI ks vws, .inl i, hH, rfl, by rw [kvI_len hlw]; exact hz, rfl⟩, ?_⟩
  have key : ∃ vws', putK (kvI ks vws) (.inl i) w3 = kvI (iput ks vs i v).1 vws' ∧ (iput ks vs i v).1.length = (iput ks vs i v).2.length ∧ RelPs X.K F ρ st.nxt (iput ks vs i v).2 vws' ∧ lbs st.nxt (iput ks vs i v).2 = true := by
    unfold putK iput
    rw [kvI_any hlw]
    by_cases e : i ∈ ks
    · rw [if_pos e, if_pos (decide_eq_true e), kvI_map]
      exact ⟨_, rfl, by rw [List.length_zipWith, ← ll, Nat.min_self], RelPs.zipIf r3 rv, lbs_zipIf hlb hw⟩
    · rw [if_neg e, if_neg (by rw [decide_eq_true_eq]; exact e), ← kvI_append hlw]
      exact ⟨_, rfl, by rw [List.length_append, List.length_append, ll]; rfl, rv.append (.cons r3 .nil), by rw [lbs_append, hw, lbs, lbs, hlb]; rfl⟩
  obtain ⟨vws', e1, e2, e3, e4⟩ := key
  rw [e1]
  exact c _ _ _ (W.set hl (c := .dki (iput ks vs i v).1 (iput ks vs i v).2) (o := .dK (kvI (iput ks vs i v).1 vws')) e4 ⟨vws', rfl, e2, e3⟩)
theorem snd_dctI {pos : Pos} : SndE X (.Dict [] [] pos) dDctI := by
  intro F ρ env st v st' σ H Q W E h c
  cases h
  refine wE_of pe_dnewK fun p hp => ?_
  have a := W.alloc (c := .dki [] []) (o := .dK []) hp (by rw [Cell.lb, lbs]) ⟨[], by rw [kvI] <;> first | rfl | (intro _ _ _ _ z; cases z), rfl, .nil⟩
  refine c _ _ _ _ a ?_
  rw [RelP]
  exact ⟨by rw [Sto.alloc_nxt]; omega, by rw [if_pos rfl]⟩
/-- d.get(k) -/
theorem snd_get1 {o e : Expr} {O K' : DE} {apos cpos : Pos} (hu : X.A.units + 65 < cLine) (ho : SndE X o O) (he : SndE X e K') (m : M1 X o "get" apos e cpos) : SndE X (.Call (.Attribute o "get" apos) [e] [] cpos) (dGet1 O K') := by
  intro F ρ env st v st' σ H Q W E h c
  unfold dGet1 at h
  obtain ⟨x, st1, h1, h⟩ := mb_eq h
  cases hd : dkiOf st1 x with
  | none => rw [hd] at h; cases h
  | some kv =>
    rw [hd] at h
    obtain ⟨y, st2, h2, h⟩ := mb_eq h
    refine wE_of (pe_dget1 (show X.A.units + 1 < cLine by omega) pe_w pe_w m) ?_
    refine ho F ρ env st x st1 σ H _ W E h1 fun F1 ρ1 w1 H1 p1 r1 => ?_
    obtain ⟨a, vws, rfl, hH, l, rv⟩ := dki_ok p1.wld r1 (ks := kv.1) (vs := kv.2) hd
    refine ⟨a, rfl, .inl ⟨_, .inl hH⟩, ?_⟩
    refine he F1 ρ1 env st1 y st2 σ H1 _ p1.wld (E.step p1) h2 fun F2 ρ2 w2 H2 p2 r2 => ?_
    split at h
    · rename_i i
      cases int_ok r2
      split at h
      · rename_i ks' vs' hd2
        cases h
        obtain ⟨a', vws', e, hH', l', rv'⟩ := dki_ok p2.wld (r1.step p2) hd2
        cases e
        refine ⟨_, .inl ⟨_, .inl i, .inl hH', rfl, rfl⟩, ?_⟩
        rcases lookI_ok (i := i) l' rv' with ⟨e1, e2⟩ | ⟨v', w', e1, e2, rr⟩
        · rw [e2]
          rw [e1] at c
          exact c F2 ρ2 .non H2 (p1.trans p2) rel_non
        · rw [e2]
          rw [e1] at c
          exact c F2 ρ2 w' H2 (p1.trans p2) rr
      · cases h
    · cases h
end
end DL

/-! DL3: operators, comparisons, calls of built-ins and of the text's own defs. -/
namespace DL
open PySem PySem.Spec PyProof.Rows L2

theorem snd_opIx {X : Cx} (hu : X.A.units + 65 < cLine) : SndIx X opIx := by
  intro F ρ st x y w1 w2 v st' H Q W r1 r2 h c
  unfold opIx at h
  split at h
  · rename_i ks vs hd
    split at h
    · rename_i i
      cases hl : ilook ks vs i with
      | none => rw [hl] at h; cases h
      | some u =>
        rw [hl] at h
        cases h
        exact ixI_ok hu W r1 r2 hd hl c
    · cases h
  split at h
  · rename_i ks vs hd
    split at h
    · rename_i hk
      cases hl : dlook ks vs y with
      | none => rw [hl] at h; cases h
      | some u =>
        rw [hl] at h
        cases h
        exact ixD_ok hu W r1 r2 hd hk hl c
    · cases h
  · split at h
    · rename_i i
      cases int_ok r2
      split at h
      · rename_i xs hx
        cases e : atI xs i with
        | none => rw [e] at h; cases h
        | some u =>
          rw [e] at h
          cases h
          obtain ⟨a, vs, rfl, hq, r⟩ := seq_ok W r1 hx
          unfold atI at e
          cases ej : ixN xs.length i with
          | none => rw [ej] at e; cases e
          | some j =>
            rw [ej] at e
            obtain ⟨w, hw, rw'⟩ := r.get (i := j) e
            have at' : atI vs i = some w := by
              unfold atI
              rw [← r.length, ej]
              exact hw
            have q := c.here W rw'
            rcases hq with hq | hq
            · exact wIx_of ix_list ⟨a, vs, i, w, rfl, rfl, hq, at', q⟩
            · exact wIx_of ix_tup ⟨a, vs, i, w, rfl, rfl, hq, at', q⟩
      · cases h
    · cases h
/-! the order of tuples of ints -/
theorem lex_tot : ∀ a b : List Int, (lexLe a b || lexLe b a) = true
  | [], [] => rfl
  | [], _ :: _ => rfl
  | _ :: _, [] => rfl
  | x :: a, y :: b => by
    unfold lexLe
    rw [HT.lexLt_cons, HT.lexLt_cons]
    by_cases h : x = y
    · subst h
      rw [if_pos rfl, if_pos rfl]
      exact lex_tot a b
    · rw [if_neg h, if_neg (Ne.symm h)]
      by_cases h2 : x < y
      · rw [decide_eq_true h2, decide_eq_false (by omega)]; rfl
      · rw [decide_eq_false h2]; simp
theorem lex_anti : ∀ {a b : List Int}, lexLe a b = true → lexLe b a = true → a = b
  | [], [], _, _ => rfl
  | [], _ :: _, _, h => by cases h
  | _ :: _, [], h, _ => by cases h
  | x :: a, y :: b, h, k => by
    unfold lexLe at h k
    rw [HT.lexLt_cons] at h k
    by_cases e : x = y
    · subst e
      rw [if_pos rfl] at h k
      rw [lex_anti (a := a) (b := b) h k]
    · rw [if_neg (Ne.symm e)] at h
      rw [if_neg e] at k
      simp at h k
      omega
theorem lex_trans : ∀ {a b c : List Int}, lexLe a b = true → lexLe b c = true → lexLe a c = true
  | [], _, [], _, _ => rfl
  | [], _, _ :: _, _, _ => rfl
  | _ :: _, [], _, h, _ => by cases h
  | _ :: _, _ :: _, [], _, h => by cases h
  | x :: a, y :: b, z :: c, h, k => by
    unfold lexLe at h k ⊢
    rw [HT.lexLt_cons] at h k ⊢
    by_cases e : y = x
    · subst e
      rw [if_pos rfl] at h
      by_cases e2 : z = y
      · subst e2
        rw [if_pos rfl] at k ⊢
        exact lex_trans (a := a) (b := b) (c := c) h k
      · rw [if_neg e2] at k ⊢
        exact k
    · rw [if_neg e] at h
      by_cases e2 : z = y
      · subst e2
        rw [if_neg e]
        exact h
      · rw [if_neg e2] at k
        simp at h k
        rw [if_neg (by omega)]
        simp
        omega
theorem sortT_perm (ks : List (List Int)) : (sortT ks).Perm ks := List.mergeSort_perm ks _
theorem sortT_sorted (ks : List (List Int)) : (sortT ks).Pairwise fun a b => lexLe a b = true :=
  List.pairwise_mergeSort (le := lexLe) (fun a b c => lex_trans) (fun a b => lex_tot a b) ks
theorem sortT_uniq {ks ms : List (List Int)} (hp : ms.Perm ks) (hs : ms.Pairwise fun a b => lexLe a b = true) : ms = sortT ks :=
  List.Perm.eq_of_pairwise (le := fun a b => lexLe a b = true) (fun a b _ _ h1 h2 => lex_anti h1 h2) hs (sortT_sorted ks) (hp.trans (sortT_perm ks).symm)
theorem lexLt_code {B : Int} : ∀ {a b : List Int}, a.length = b.length → TS.Bd B a → TS.Bd B b → HT.lexLt a b = decide (TS.code B a < TS.code B b)
  | [], [], _, _, _ => by
    rw [HT.lexLt_nil_nil, decide_eq_false (Int.lt_irrefl _)]
  | x :: a, y :: b, hl, h1, h2 => by
    have hz : a.length = b.length := by simpa using hl
    clear hl
    rw [HT.lexLt_cons]
    by_cases e : x = y
    · subst e
      rw [if_pos rfl, lexLt_code hz h1.tail h2.tail]
      exact decide_eq_decide.mpr (TS.code_same hz).symm
    · rw [if_neg e]
      by_cases e2 : x < y
      · rw [decide_eq_true e2, decide_eq_true (TS.code_lt hz h1.tail h2.tail e2)]
      · have := TS.code_lt hz.symm h2.tail h1.tail (show y < x by omega)
        rw [decide_eq_false e2, decide_eq_false (by omega)]
theorem lexLe_code {B : Int} {a b : List Int} (hl : a.length = b.length) (h1 : TS.Bd B a) (h2 : TS.Bd B b) (h : TS.code B a ≤ TS.code B b) : lexLe a b = true := by
  unfold lexLe
  rw [lexLt_code hl.symm h2 h1, decide_eq_false (by omega)]
  rfl
theorem uniqT_mem {ks : List (List Int)} {x : List Int} : x ∈ uniqT ks ↔ x ∈ ks := by
  induction ks with
  | nil => exact Iff.rfl
  | cons k r ih =>
    unfold uniqT
    by_cases h : k ∈ r
    · rw [if_pos h, ih, List.mem_cons]
      constructor
      · exact .inr
      · rintro (rfl | h2)
        · exact h
        · exact h2
    · rw [if_neg h, List.mem_cons, List.mem_cons, ih]
theorem uniqT_nodup (ks : List (List Int)) : (uniqT ks).Nodup := by
  induction ks with
  | nil => exact List.nodup_nil
  | cons k r ih =>
    unfold uniqT
    by_cases h : k ∈ r
    · rw [if_pos h]; exact ih
    · rw [if_neg h]
      exact List.nodup_cons.mpr ⟨fun z => h (uniqT_mem.mp z), ih⟩
theorem perm_uniqT {ks ms : List (List Int)} (hn : ms.Nodup) (h : ∀ x, x ∈ ms ↔ x ∈ ks) : ms.Perm (uniqT ks) :=
  (List.perm_ext_iff_of_nodup hn (uniqT_nodup ks)).mpr fun x => by rw [h, uniqT_mem]
/-! lists of tuples of ints, as they lie -/
theorem perm_map_inv {α β : Type} {f : α → β} : ∀ {ys : List β} {l : List α}, ys.Perm (l.map f) → ∃ l' : List α, l'.Perm l ∧ ys = l'.map f
  | [], l, h => by
    have := h.nil_eq
    cases l with
    | nil => exact ⟨[], .refl _, rfl⟩
    | cons a l => cases this
  | y :: ys, l, h => by
    obtain ⟨a, ha, rfl⟩ := List.mem_map.mp (h.mem_iff.mp List.mem_cons_self)
    obtain ⟨s, t, rfl⟩ := List.append_of_mem ha
    have h2 : (f a :: ys).Perm (f a :: (s ++ t).map f) := by
      refine h.trans ?_
      rw [List.map_append, List.map_cons, List.map_append]
      exact List.perm_middle
    obtain ⟨l', p, e⟩ := perm_map_inv h2.cons_inv
    exact ⟨a :: l', (p.cons a).trans List.perm_middle.symm, by rw [e]; rfl⟩
theorem rel_tups {K : PySem.W.Frag} {F : Hp} {ρ : Nat → Addr} {n : Nat} : ∀ {xs : List PV} {vs : List V} {ks : List (List Int)}, tupsOf xs = some ks → RelPs K F ρ n xs vs → ∃ prs : List (Addr × List Int), vs = prs.map (fun p => V.ref p.1) ∧ ks = prs.map (·.2) ∧ ∀ p ∈ prs, SqT K F p.1 (p.2.map V.int)
  | [], vs, ks, h, r => by
    cases h
    rw [r.inv0]
    exact ⟨[], rfl, rfl, fun _ z => by cases z⟩
  | x :: xs, vs, ks, h, r => by
    obtain ⟨w, ws, rfl, h1, h2⟩ := r.inv
    unfold tupsOf at h
    split at h
    · rename_i e; cases e
    · rename_i ys r' e
      cases e
      split at h
      · rename_i ns ks' hn hk
        cases h
        obtain ⟨prs, rfl, rfl, hp⟩ := rel_tups hk h2
        rw [RelP] at h1
        obtain ⟨a, us, rfl, q, r3⟩ := h1
        have e2 := r3.intsInv hn
        subst e2
        refine ⟨(a, ns) :: prs, rfl, rfl, fun p z => ?_⟩
        rcases List.mem_cons.mp z with rfl | z
        · exact q
        · exact hp p z
      · cases h
    · cases h
theorem tups_rel {K : PySem.W.Frag} {F : Hp} {ρ : Nat → Addr} {n : Nat} : ∀ {prs : List (Addr × List Int)}, (∀ p ∈ prs, SqT K F p.1 (p.2.map V.int)) → RelPs K F ρ n (prs.map fun p => tupP p.2) (prs.map fun p => V.ref p.1)
  | [], _ => RelPs.nil
  | p :: prs, h => by
    refine RelPs.cons ?_ (tups_rel fun q z => h q (List.mem_cons_of_mem _ z))
    unfold tupP
    rw [RelP]
    exact ⟨p.1, p.2.map V.int, rfl, h p List.mem_cons_self, RelPs.ints _⟩
theorem tuple_mul1 (l : Addr) (items : Array Value) (n : Nat) (dd : Option Addr) (sl : Array (Option Value)) (u : Tok) :
    Meets (Builtin.«tuple.__mul__» ⟨[.ref l, .int 1 u], []⟩) (fun _ R s => s.heap.get? l = some { cls := .type "tuple", dict := dd, data := .seq items n, slots := sl } ∧ R (.ok (.ret (Value.ref l))) s) :=
  .of_wp fun prog w A R s h => by
    obtain ⟨hp, g, d, tk, os⟩ := s
    obtain ⟨hl, h⟩ := h
    have f1 := AutoSeq1.idx_int
    have c1 : (items.isEmpty || (1 : Int) == 1) = true := by rw [show ((1 : Int) == 1) = true from rfl, Bool.or_true]
    wp_walk using wpAny_loadPart' hl
    repeat (first
      | (refine wpAny_ite_false (decide_eq_false (by decide)) ?_; wp_walk using wpAny_loadPart' hl)
      | (refine wpAny_ite_true (decide_eq_true c1) ?_; wp_walk using wpAny_loadPart' hl))
    exact ⟨_, rfl, h⟩
theorem tuple_mul0 (l : Addr) (items : Array Value) (n : Nat) (dd : Option Addr) (sl : Array (Option Value)) (u : Tok) (hi : items.isEmpty = false) :
    Meets (Builtin.«tuple.__mul__» ⟨[.ref l, .int 0 u], []⟩) (fun _ R s => s.heap.get? l = some { cls := .type "tuple", dict := dd, data := .seq items n, slots := sl } ∧ R (.ok (.ret (Value.ref s.heap.objs.size))) { s with heap := s.heap.push { cls := Value.type "tuple", data := Data.seq #[] }, toks := s.toks }) :=
  .of_wp fun prog w A R s h => by
    obtain ⟨hp, g, d, tk, os⟩ := s
    obtain ⟨hl, h⟩ := h
    have f1 := AutoSeq1.idx_int
    have c1 : (items.isEmpty || (0 : Int) == 1) = false := by rw [hi]; rfl
    have c2 : (decide ((0 : Int) ≤ 0) || items.isEmpty) = true := by rw [hi]; rfl
    wp_walk using wpAny_loadPart' hl
    repeat (first
      | (refine wpAny_ite_false (decide_eq_false (by decide)) ?_; wp_walk using wpAny_loadPart' hl)
      | (refine wpAny_ite_false (decide_eq_false (by rw [c1]; exact Bool.false_ne_true)) ?_; wp_walk using wpAny_loadPart' hl)
      | (refine wpAny_ite_true (decide_eq_true c2) ?_; wp_walk using wpAny_loadPart' hl))
    exact ⟨_, rfl, h⟩
/-- t * k -/
def rRepA (K : PySem.W.Frag) : R2 := fun x y H Q => ∃ l k xs, x = .ref l ∧ y = .int k ∧ SqT K H l xs ∧ xs ≠ [] ∧ 0 ≤ k ∧ k ≤ 1000 ∧ xs.length ≤ 1000 ∧ (k = 1 → Q (.ref l) H) ∧ (k ≠ 1 → ∀ p, H p = none → Q (.ref p) (upd H p (.tup (List.replicate k.toNat xs).flatten)))
section
variable {X : Cx}
theorem op_repA : OpR X (binaryOp .Mult) (rRepA X.K) := by
  intro pins s σ H x y v u Q I rx ry h
  obtain ⟨l, k, xs, rfl, rfl, hT, hne, h0, h1, hz, q1, q⟩ := h
  by_cases h2 : 2 ≤ k
  · exact op_repT pins s σ H _ _ v u Q I rx ry ⟨l, k, xs, rfl, rfl, hT, hne, h2, h1, hz, q (by omega)⟩
  cases rx
  obtain ⟨t, rfl⟩ := ry
  obtain ⟨its, r, ⟨⟨cls, dd, data, sl⟩, ho, hc, n, hd⟩, hs⟩ := I.tuple hT
  simp only at hc hd
  subst hc hd
  have hle : its.length = xs.length := r.length.symm
  have hi : its.toArray.isEmpty = false := by
    cases its with
    | nil => exact absurd (List.eq_nil_of_length_eq_zero hle.symm) hne
    | cons a b => rfl
  by_cases hk : k = 1
  · subst hk
    refine wpAny_binaryOp_repeat_ref (T := "tuple") (U := "int") (by decide) ⟨_, ho, rfl⟩ (fun s' => typeIs_int s' 1 t) noFill_tuple_mul F.fills_int_mul F.slot_int_rmul repeat_tuple F.slot_int_index.lookup
      (call_meets F.slot_int_rmul (typeIs_int s 1 t) F.entry_int_rmul (F.args_int_rmul_2 _ _) (int_rmul_tuple 1 t l its.toArray n dd sl)
        ⟨ho, rfl, ⟨_, ho, rfl⟩, call_meets F.slot_tuple_mul ⟨_, ho, rfl⟩ F.entry_tuple_mul (F.args_tuple_mul_2 _ _) (tuple_mul1 l its.toArray n dd sl t) ⟨ho, ?_⟩⟩)
    exact ⟨.ref l, H, I, rfl, q1 rfl⟩
  · have hk : k = 0 := by omega
    subst hk
    refine wpAny_binaryOp_repeat_ref (T := "tuple") (U := "int") (by decide) ⟨_, ho, rfl⟩ (fun s' => typeIs_int s' 0 t) noFill_tuple_mul F.fills_int_mul F.slot_int_rmul repeat_tuple F.slot_int_index.lookup
      (call_meets F.slot_int_rmul (typeIs_int s 0 t) F.entry_int_rmul (F.args_int_rmul_2 _ _) (int_rmul_tuple 0 t l its.toArray n dd sl)
        ⟨ho, rfl, ⟨_, ho, rfl⟩, call_meets F.slot_tuple_mul ⟨_, ho, rfl⟩ F.entry_tuple_mul (F.args_tuple_mul_2 _ _) (tuple_mul0 l its.toArray n dd sl t hi) ⟨ho, ?_⟩⟩)
    refine ⟨.ref s.heap.objs.size, _, I.laid (t' := s.toks) (o := .tup (List.replicate (0 : Int).toNat xs).flatten) (fun b ob q => Heap.get?_push_of_some _ q) (Nat.le_refl _) ?_, rfl, q (by omega) _ (I.hok.fresh (Nat.le_refl _))⟩
    exact ⟨by show ([] : List V).length ≤ sizeLine; exact Nat.zero_le _, _, Paired.nil, IsTup.new _ _⟩
theorem vals3 {x y z : V} {us : List Value} (r : Vals [x, y, z] us) : ∃ u w t, us = [u, w, t] ∧ RelV x u ∧ RelV y w ∧ RelV z t := by
  cases r with
  | cons r1 r2 =>
    obtain ⟨u, w, rfl, a, b⟩ := vals2 r2
    exact ⟨_, _, _, rfl, r1, a, b⟩
theorem call_max3 (hc : X.calm = true) : CallR X (.builtin "max") (fun xs H Q => ∃ i j k, xs = [.int i, .int j, .int k] ∧ Q (.int (if j > i then (if k > j then k else j) else (if k > i then k else i))) H) := by
  intro pins s σ H xs us Q I r h
  obtain ⟨i, j, k, rfl, q⟩ := h
  obtain ⟨u, w', z, rfl, ⟨t, rfl⟩, ⟨t', rfl⟩, ⟨t'', rfl⟩⟩ := vals3 r
  refine max_three_ints (I.ok.hd hc) fun h' tk kk => ⟨_, H, I.kept kk, ?_, q⟩
  by_cases hj : j > i
  · rw [if_pos hj, if_pos hj]
    by_cases hk : k > j
    · rw [if_pos hk, if_pos hk]; exact ⟨_, rfl⟩
    · rw [if_neg hk, if_neg hk]; exact ⟨_, rfl⟩
  · rw [if_neg hj, if_neg hj]
    by_cases hk : k > i
    · rw [if_pos hk, if_pos hk]; exact ⟨_, rfl⟩
    · rw [if_neg hk, if_neg hk]; exact ⟨_, rfl⟩
theorem call_min3 (hc : X.calm = true) : CallR X (.builtin "min") (fun xs H Q => ∃ i j k, xs = [.int i, .int j, .int k] ∧ Q (.int (if j < i then (if k < j then k else j) else (if k < i then k else i))) H) := by
  intro pins s σ H xs us Q I r h
  obtain ⟨i, j, k, rfl, q⟩ := h
  obtain ⟨u, w', z, rfl, ⟨t, rfl⟩, ⟨t', rfl⟩, ⟨t'', rfl⟩⟩ := vals3 r
  refine min_three_ints (I.ok.hd hc) fun h' tk kk => ⟨_, H, I.kept kk, ?_, q⟩
  by_cases hj : j < i
  · rw [if_pos hj, if_pos hj]
    by_cases hk : k < j
    · rw [if_pos hk, if_pos hk]; exact ⟨_, rfl⟩
    · rw [if_neg hk, if_neg hk]; exact ⟨_, rfl⟩
  · rw [if_neg hj, if_neg hj]
    by_cases hk : k < i
    · rw [if_pos hk, if_pos hk]; exact ⟨_, rfl⟩
    · rw [if_neg hk, if_neg hk]; exact ⟨_, rfl⟩
end
section
variable {X : Cx}
theorem so_add {m : Bool} : SndO X (binaryOp .Add) (opAdd m) := by
  intro F ρ st x y w1 w2 v st' H Q W r1 r2 h c
  unfold opAdd at h
  split at h
  · cases h
    cases int_ok r1; cases int_ok r2
    exact wR_of op_add ⟨_, _, rfl, rfl, c.here W (rel_int _)⟩
  · split at h
    · rename_i hz
      cases h
      cases str_ok r1; cases str_ok r2
      exact wR_of op_add_str ⟨_, _, rfl, rfl, hz, c.here W (rel_str _)⟩
    · cases h
  · rename_i a b
    split at h
    · rename_i hz
      cases h
      obtain ⟨p, vs, rfl, q1, s1⟩ := tup_ok W r1
      obtain ⟨p', vs', rfl, q2, s2⟩ := tup_ok W r2
      refine wR_of op_catA ⟨_, _, vs, vs', rfl, rfl, q1, q2, by rw [← s1.length, ← s2.length]; exact hz, fun e => ?_, fun e e' => ?_, fun e e' p hp => ?_⟩
      · subst e
        have : a = [] := List.eq_nil_of_length_eq_zero s1.length
        subst this
        exact c.here W r2
      · subst e'
        have : b = [] := List.eq_nil_of_length_eq_zero s2.length
        subst this
        rw [List.append_nil] at c
        exact c.here W r1
      · exact tupV_ok W (s1.append s2) c hp
    · cases h
  · split at h
    · rename_i a b ha hb
      obtain ⟨p, vs, rfl, q1, s1⟩ := lst_ok W r1 ha
      obtain ⟨p', vs', rfl, q2, s2⟩ := lst_ok W r2 hb
      obtain ⟨hz, k⟩ := mkL_ok W (s1.append s2) h c
      exact wR_of op_cat ⟨_, _, vs, vs', rfl, rfl, q1, q2, by rw [← List.length_append]; exact hz, k⟩
    · cases h
theorem so_sub : SndO X (binaryOp .Sub) opSub := by
  intro F ρ st x y w1 w2 v st' H Q W r1 r2 h c
  unfold opSub at h
  split at h
  · cases h
    cases int_ok r1; cases int_ok r2
    exact wR_of op_sub ⟨_, _, rfl, rfl, c.here W (rel_int _)⟩
  · cases h
theorem so_mul : SndO X (binaryOp .Mult) opMul := by
  intro F ρ st x y w1 w2 v st' H Q W r1 r2 h c
  unfold opMul at h
  split at h
  · split at h
    · rename_i hz
      cases h
      cases int_ok r1; cases int_ok r2
      exact wR_of op_mul ⟨_, _, rfl, rfl, okMul_iff.mp hz, c.here W (rel_int _)⟩
    · cases h
  · rename_i xs k
    split at h
    · rename_i hz
      cases h
      obtain ⟨z0, z1, z2, z3⟩ := okRep_iff.mp hz
      obtain ⟨p, vs, rfl, q1, s1⟩ := tup_ok W r1
      cases int_ok r2
      have hl := s1.length
      refine wR_of op_repA ⟨p, k, vs, rfl, rfl, q1, fun e => ?_, z2, z3, by omega, fun e => ?_, fun e p hp => ?_⟩
      · subst e
        rw [List.length_nil] at hl
        omega
      · subst e
        have : (List.replicate (1 : Int).toNat xs).flatten = xs := by
          show (List.replicate 1 xs).flatten = xs
          simp
        rw [this] at c
        exact c.here W r1
      · exact tupV_ok W (s1.replicate _) c hp
    · cases h
  · cases h
theorem so_mod : SndO X (binaryOp .Mod) opMod := by
  intro F ρ st x y w1 w2 v st' H Q W r1 r2 h c
  unfold opMod at h
  split at h
  · split at h
    · rename_i hz
      cases h
      cases int_ok r1; cases int_ok r2
      exact wR_of op_mod ⟨_, _, rfl, rfl, okMod_iff.mp hz, c.here W (rel_int _)⟩
    · cases h
  · cases h
theorem so_div : SndO X (binaryOp .FloorDiv) opDiv := by
  intro F ρ st x y w1 w2 v st' H Q W r1 r2 h c
  unfold opDiv at h
  split at h
  · split at h
    · rename_i hz
      cases h
      cases int_ok r1; cases int_ok r2
      exact wR_of op_fdiv ⟨_, _, rfl, rfl, okDiv_iff.mp hz, c.here W (rel_int _)⟩
    · cases h
  · cases h
theorem so_pow : SndO X (binaryOp .Pow) opPow := by
  intro F ρ st x y w1 w2 v st' H Q W r1 r2 h c
  unfold opPow at h
  split at h
  · split at h
    · rename_i hz
      cases h
      cases int_ok r1; cases int_ok r2
      exact wR_of op_pow ⟨_, _, rfl, rfl, okPow_iff.mp hz, c.here W (rel_int _)⟩
    · cases h
  · cases h
theorem su_neg : SndU X (unaryOp .USub) opNeg := by
  intro F ρ st x w1 v st' H Q W r1 h c
  unfold opNeg at h
  split at h
  · cases h
    cases int_ok r1
    exact wU_of un_neg ⟨_, rfl, c.here W (rel_int _)⟩
  · cases h
theorem so_cmpI {op : CmpOp} {p : Int → Int → Bool} (hr : OpR X (compareOp op) (rI0 fun i j => .bl (p i j))) : SndO X (compareOp op) (cmpI p) := by
  intro F ρ st x y w1 w2 v st' H Q W r1 r2 h c
  unfold cmpI at h
  split at h
  · cases h
    cases int_ok r1; cases int_ok r2
    exact wR_of hr ⟨_, _, rfl, rfl, c.here W (rel_bl _)⟩
  · cases h
theorem so_le : SndO X (compareOp .LtE) (cmpI fun i j => decide (i ≤ j)) := so_cmpI op_le
theorem so_gt : SndO X (compareOp .Gt) (cmpI fun i j => decide (j < i)) := so_cmpI op_gt
theorem so_ge : SndO X (compareOp .GtE) (cmpI fun i j => decide (j ≤ i)) := so_cmpI op_ge

/-! == -/
mutual
theorem dp_ok {K : PySem.W.Frag} {F H : Hp} {ρ : Nat → Addr} {n : Nat} {cs : Nat → Option Cell} (s : Sub F H) : ∀ {x : PV} {w : V} {d : PyData}, RelP K F ρ n x w → x.toD cs = some d → Dp K H w d
  | .non, _, _, r, h => by rw [PV.toD] at h; cases h; rw [non_ok r]; exact .non
  | .bl _, _, _, r, h => by rw [PV.toD] at h; cases h; rw [bl_ok r]; exact .bl _
  | .int _, _, _, r, h => by rw [PV.toD] at h; cases h; rw [int_ok r]; exact .int _
  | .str _, _, _, r, h => by rw [PV.toD] at h; cases h; rw [str_ok r]; exact .str _
  | .tup xs, _, _, r, h => by
    rw [PV.toD] at h
    rw [RelP] at r
    obtain ⟨a, vs, rfl, q, r⟩ := r
    cases e : toDs cs xs with
    | none => rw [e] at h; cases h
    | some ds =>
      rw [e] at h; cases h
      exact .tup (s.sqT q) (dps_ok s r e)
  | .lst xs, _, _, r, h => by
    rw [PV.toD] at h
    rw [RelP] at r
    obtain ⟨a, vs, rfl, q, r⟩ := r
    cases e : toDs cs xs with
    | none => rw [e] at h; cases h
    | some ds =>
      rw [e] at h; cases h
      exact .lst (.inl (.inl (s _ _ q))) (dps_ok s r e)
  | .ro xs, _, _, r, h => by
    rw [PV.toD] at h
    rw [RelP] at r
    obtain ⟨a, vs, rfl, q, r⟩ := r
    cases e : toDs cs xs with
    | none => rw [e] at h; cases h
    | some ds =>
      rw [e] at h; cases h
      exact .lst (s.sqL q) (dps_ok s r e)
  | .dct _ _, _, _, _, h => by rw [PV.toD] at h; cases h
  | .dki _ _, _, _, _, h => by rw [PV.toD] at h; cases h
  | .loc _, _, _, _, h => by rw [PV.toD] at h; cases h
theorem dps_ok {K : PySem.W.Frag} {F H : Hp} {ρ : Nat → Addr} {n : Nat} {cs : Nat → Option Cell} (s : Sub F H) : ∀ {xs : List PV} {ws : List V} {ds : List PyData}, RelPs K F ρ n xs ws → toDs cs xs = some ds → DpAll K H ws ds
  | [], _, _, r, h => by rw [toDs] at h; cases h; rw [r.inv0]; exact .nil
  | x :: r, _, _, rr, h => by
    rw [toDs] at h
    obtain ⟨w, ws, rfl, h1, h2⟩ := rr.inv
    cases e : x.toD cs with
    | none => rw [e] at h; cases h
    | some d =>
      cases e2 : toDs cs r with
      | none => rw [e, e2] at h; cases h
      | some ds =>
        rw [e, e2] at h; cases h
        exact .cons (dp_ok s h1 e) (dps_ok s h2 e2)
end
theorem dpd_ok {F : Hp} {ρ : Nat → Addr} {st : Sto} {H : Hp} {x : PV} {w : V} {d : PyData} (W : Wld X.K F ρ st H) (r : RelP X.K F ρ st.nxt x w) (h : (derf st x).toD st.cs = some d) : Dp X.K H w d := by
  unfold derf at h
  split at h
  · rename_i l
    split at h
    · rename_i c hc
      rw [RelP] at r
      obtain ⟨_, rfl⟩ := r
      obtain ⟨_, q⟩ := W.cell l c hc
      cases c with
      | lst xs =>
        obtain ⟨vs, e, q⟩ := q
        have h : (PV.lst xs).toD st.cs = some d := h
        rw [PV.toD] at h
        cases e2 : toDs st.cs xs with
        | none => rw [e2] at h; cases h
        | some ds =>
          rw [e2] at h; cases h
          exact .lst (.inl (.inl e)) (dps_ok W.sub q e2)
      | dct ks vs =>
        have h : (PV.dct ks vs).toD st.cs = some d := h
        rw [PV.toD] at h; cases h
      | dki ks vs =>
        have h : (PV.dki ks vs).toD st.cs = some d := h
        rw [PV.toD] at h; cases h
    · rw [PV.toD] at h; cases h
  · exact dp_ok W.sub r h
theorem so_lt (hu : X.A.units + 65 < cLine) : SndO X (compareOp .Lt) cmpLt := by
  intro F ρ st x y w1 w2 v st' H Q W r1 r2 h c
  unfold cmpLt at h
  split at h
  · cases h
    cases int_ok r1; cases int_ok r2
    exact wR_of op_lt ⟨_, _, rfl, rfl, c.here W (rel_bl _)⟩
  · split at h
    · rename_i d e h1 h2
      split at h
      · rename_i hz
        cases h
        rw [Bool.and_eq_true, decide_eq_true_eq] at hz
        have d1 := dp_ok W.sub r1 h1
        have d2 := dp_ok W.sub r2 h2
        have hn : d ≠ .none := by
          rw [PV.toD] at h1
          intro z
          subst z
          cases q : toDs st.cs _ with
          | none => rw [q] at h1; cases h1
          | some _ => rw [q] at h1; cases h1
        intro pins s σ v u I rv ru
        obtain ⟨as, ra⟩ := Dp.reads I d w1 v d1 rv
        obtain ⟨bs, rb⟩ := Dp.reads I e w2 u d2 ru
        show wpAny _ _ (richCompare .Lt v u) _ _ s
        exact PySem.W.rcLt_alike d e X.A s v u as bs ra rb hz.1 hn (by omega) X.prog X.w _ _ ⟨.bl _, H, I, rfl, c.here W (rel_bl _)⟩
      · cases h
    · cases h
  · cases h
theorem so_eq (hu : X.A.units + 65 < cLine) : SndO X (compareOp .Eq) (cmpEq false) := by
  intro F ρ st x y w1 w2 v st' H Q W r1 r2 h c
  unfold cmpEq at h
  split at h
  · rename_i d e hd he
    split at h
    · rename_i hs
      cases h
      rw [Bool.and_eq_true] at hs
      have q := c.here W (rel_bl _)
      rw [Bool.bne_false] at q
      exact wR_of (op_eqD (by omega)) ⟨d, e, dpd_ok W r1 hd, dpd_ok W r2 he, hs.1, hs.2, q⟩
    · cases h
  · cases h
theorem so_ne (hu : X.A.units + 65 < cLine) : SndO X (compareOp .NotEq) (cmpEq true) := by
  intro F ρ st x y w1 w2 v st' H Q W r1 r2 h c
  unfold cmpEq at h
  split at h
  · rename_i d e hd he
    split at h
    · rename_i hs
      cases h
      rw [Bool.and_eq_true] at hs
      have q := c.here W (rel_bl _)
      rw [Bool.bne_true] at q
      exact wR_of (op_neD (by omega)) ⟨d, e, dpd_ok W r1 hd, dpd_ok W r2 he, hs.1, hs.2, q⟩
    · cases h
  · cases h
/-! in -/
theorem flat_ok {K : PySem.W.Frag} {F : Hp} {ρ : Nat → Addr} {n : Nat} {x : PV} {w : V} (r : RelP K F ρ n x w) (h : flatP x = true) : flatV w = true := by
  cases x with
  | non => rw [non_ok r]; rfl
  | bl b => rw [bl_ok r]; rfl
  | int b => rw [int_ok r]; rfl
  | str b => rw [str_ok r]; rfl
  | _ => exact absurd (show false = true from h) Bool.false_ne_true
theorem eqP_ok {K : PySem.W.Frag} {F : Hp} {ρ : Nat → Addr} {n : Nat} {x y : PV} {w u : V} (r : RelP K F ρ n x w) (r' : RelP K F ρ n y u) (h : flatP x = true) (h' : flatP y = true) : eqV w u = eqP x y := by
  cases x with
  | non =>
    rw [non_ok r]
    cases y with
    | non => rw [non_ok r']; rfl
    | bl b => rw [bl_ok r']; rfl
    | int b => rw [int_ok r']; rfl
    | str b => rw [str_ok r']; rfl
    | _ => exact absurd (show false = true from h') Bool.false_ne_true
  | bl b =>
    rw [bl_ok r]
    cases y with
    | non => rw [non_ok r']; rfl
    | bl b => rw [bl_ok r']; rfl
    | int b => rw [int_ok r']; rfl
    | str b => rw [str_ok r']; rfl
    | _ => exact absurd (show false = true from h') Bool.false_ne_true
  | int b =>
    rw [int_ok r]
    cases y with
    | non => rw [non_ok r']; rfl
    | bl b => rw [bl_ok r']; rfl
    | int b => rw [int_ok r']; rfl
    | str b => rw [str_ok r']; rfl
    | _ => exact absurd (show false = true from h') Bool.false_ne_true
  | str b =>
    rw [str_ok r]
    cases y with
    | non => rw [non_ok r']; rfl
    | bl b => rw [bl_ok r']; rfl
    | int b => rw [int_ok r']; rfl
    | str b => rw [str_ok r']; rfl
    | _ => exact absurd (show false = true from h') Bool.false_ne_true
  | _ => exact absurd (show false = true from h) Bool.false_ne_true
theorem flats_ok {K : PySem.W.Frag} {F : Hp} {ρ : Nat → Addr} {n : Nat} {x : PV} {w : V} (r : RelP K F ρ n x w) (h : flatP x = true) : ∀ {ys : List PV} {us : List V}, RelPs K F ρ n ys us → ys.all flatP = true → us.all flatV = true ∧ (us.any fun y => eqV y w) = ys.any fun z => eqP z x
  | [], _, q, _ => by rw [q.inv0]; exact ⟨rfl, rfl⟩
  | y :: ys, _, q, f => by
    obtain ⟨u, us, rfl, q1, q2⟩ := q.inv
    rw [List.all_cons, Bool.and_eq_true] at f
    obtain ⟨i1, i2⟩ := flats_ok r h q2 f.2
    rw [List.all_cons, List.any_cons, List.any_cons, i1, i2, flat_ok q1 f.1, eqP_ok q1 r f.1 h]
    exact ⟨rfl, rfl⟩
theorem so_in (hu : X.A.units + 65 < cLine) : SndO X (compareOp .In) (cmpIn false) := by
  intro F ρ st x y w1 w2 v st' H Q W r1 r2 h c
  unfold cmpIn at h
  split at h
  · rename_i ks vs hd
    split at h
    · rename_i i
      cases h
      exact inI_ok hu false W r1 r2 hd c
    · cases h
  split at h
  · rename_i ks vs hd
    split at h
    · rename_i hk
      cases h
      exact inD_ok hu false W r1 r2 hd hk c
    · cases h
  unfold cmpInS at h
  split at h
  · rename_i ys hy
    split at h
    · rename_i hf
      cases h
      rw [Bool.and_eq_true] at hf
      obtain ⟨a, vs, rfl, hq, r⟩ := seq_ok W r2 hy
      obtain ⟨f1, f2⟩ := flats_ok r1 hf.1 r hf.2
      have q := c.here W (rel_bl _)
      rw [Bool.bne_false, ← f2] at q
      exact wR_of op_in_seq ⟨a, vs, rfl, hq, flat_ok r1 hf.1, f1, q⟩
    · split at h
      · rename_i ys hy
        split at h
        · rename_i d ds hd hds
          split at h
          · rename_i hs
            cases h
            rw [Bool.and_eq_true] at hs
            obtain ⟨a, vs, rfl, hq, r⟩ := lst_ok W r2 hy
            have q := c.here W (rel_bl _)
            rw [Bool.bne_false] at q
            exact wR_of (op_inD hu) ⟨d, ds, dpd_ok W r1 hd, .lst (.inl (.inl hq)) (dps_ok W.sub r hds), hs.1, hs.2, q⟩
          · cases h
        · cases h
      · cases h
  · cases h
theorem so_notIn (hu : X.A.units + 65 < cLine) : SndO X (compareOp .NotIn) (cmpIn true) := by
  intro F ρ st x y w1 w2 v st' H Q W r1 r2 h c
  unfold cmpIn at h
  split at h
  · rename_i ks vs hd
    split at h
    · rename_i i
      cases h
      exact inI_ok hu true W r1 r2 hd c
    · cases h
  split at h
  · rename_i ks vs hd
    split at h
    · rename_i hk
      cases h
      exact inD_ok hu true W r1 r2 hd hk c
    · cases h
  unfold cmpInS at h
  split at h
  · rename_i ys hy
    split at h
    · rename_i hf
      cases h
      rw [Bool.and_eq_true] at hf
      obtain ⟨a, vs, rfl, hq, r⟩ := seq_ok W r2 hy
      obtain ⟨f1, f2⟩ := flats_ok r1 hf.1 r hf.2
      have q := c.here W (rel_bl _)
      rw [Bool.bne_true, ← f2] at q
      exact wR_of op_notIn_seq ⟨a, vs, rfl, hq, flat_ok r1 hf.1, f1, q⟩
    · split at h
      · rename_i ys hy
        split at h
        · rename_i d ds hd hds
          split at h
          · rename_i hs
            cases h
            rw [Bool.and_eq_true] at hs
            obtain ⟨a, vs, rfl, hq, r⟩ := lst_ok W r2 hy
            have q := c.here W (rel_bl _)
            rw [Bool.bne_true] at q
            exact wR_of (op_notInD hu) ⟨d, ds, dpd_ok W r1 hd, .lst (.inl (.inl hq)) (dps_ok W.sub r hds), hs.1, hs.2, q⟩
          · cases h
        · cases h
      · cases h
  · cases h

/-! ### chains, conditions -/
variable {pos : Pos} {a b c e : Expr} {A B C : DE}
theorem snd_ite {t : Expr} {T : DT} (ht : SndT X t T) (ha : SndE X a A) (hb : SndE X b B) : SndE X (.IfExp t a b pos) (dIte T A B) := by
  intro F ρ env st v st' σ H Q W E h c
  obtain ⟨k, st1, h1, h2⟩ := mb_eq h
  refine wE_of (pe_ifExp pt_w pe_w pe_w) (ht F ρ env st k st1 σ H _ W E h1 fun F1 ρ1 H1 p1 => ?_)
  cases k with
  | true => exact ha F1 ρ1 env st1 v st' σ H1 Q p1.wld (E.step p1) h2 (Ct.of p1 c)
  | false => exact hb F1 ρ1 env st1 v st' σ H1 Q p1.wld (E.step p1) h2 (Ct.of p1 c)

/-! ### slices -/
def SndOp (X : Cx) (oe : Option Expr) (D : DO) : Prop := ∃ t, PO X oe t ∧ ∀ F ρ env st o st' σ H Q, Wld X.K F ρ st H → ERel X.K F ρ st.nxt env σ → D env st = some (o, st') →
  (∀ F' ρ' H', Pst X.K F ρ st H F' ρ' st' H' → Q o H') → t σ H Q
theorem sop_none : SndOp X none oNone := ⟨_, po_none, fun F ρ env st o st' σ H Q W E h c => by cases h; exact c F ρ H (Pst.refl W)⟩
theorem sop_some (ha : SndE X a A) : SndOp X (some a) (oSome A) := ⟨_, po_some pe_w, fun F ρ env st o st' σ H Q W E h c => by
  obtain ⟨x, st1, h1, h2⟩ := mb_eq h
  refine ha F ρ env st x st1 σ H _ W E h1 fun F1 ρ1 w1 H1 p1 r1 => ?_
  split at h2
  · cases h2
    exact ⟨_, int_ok r1, c F1 ρ1 H1 p1⟩
  · cases h2⟩
theorem RelPs.cut {K : PySem.W.Frag} {F : Hp} {ρ : Nat → Addr} {n : Nat} {xs : List PV} {vs : List V} (r : RelPs K F ρ n xs vs) (lo hi : Option Int) : RelPs K F ρ n (cutP xs lo hi) (cutV vs lo hi) := by
  unfold cutP cutV
  rw [r.length]
  exact (r.drop _).take _
theorem cut_whole {xs : List PV} {lo hi : Option Int} (h : HT.sIx xs.length 0 lo = 0 ∧ HT.sIx xs.length xs.length hi = xs.length) : cutP xs lo hi = xs := by
  unfold cutP
  rw [h.1, h.2, List.drop_zero, Nat.sub_zero, List.take_length]
theorem snd_sl {m : Bool} {lo hi : Option Expr} {L U : DO} {p2 : Pos} (ha : SndE X a A) (hl : SndOp X lo L) (hu : SndOp X hi U) : SndE X (.Subscript a (.Slice lo hi none p2) pos) (dSl m A L U) := by
  intro F ρ env st v st' σ H Q W E h c
  obtain ⟨tl, pl, kl⟩ := hl
  obtain ⟨tu, pu, ku⟩ := hu
  obtain ⟨x, st1, h1, h⟩ := mb_eq h
  obtain ⟨l, st2, h2, h⟩ := mb_eq h
  obtain ⟨u, st3, h3, h⟩ := mb_eq h
  refine wE_of (pe_slice (SlR.or sl_list sl_tupA) pe_w pl pu) ?_
  refine ha F ρ env st x st1 σ H _ W E h1 fun F1 ρ1 w1 H1 p1 r1 => ?_
  refine kl F1 ρ1 env st1 l st2 σ H1 _ p1.wld (E.step p1) h2 fun F2 ρ2 H2 p2 => ?_
  refine ku F2 ρ2 env st2 u st3 σ H2 _ p2.wld ((E.step p1).step p2) h3 fun F3 ρ3 H3 p3 => ?_
  have r3 := (r1.step p2).step p3
  have W3 := p3.wld
  have c3 := Ct.of ((p1.trans p2).trans p3) c
  split at h
  · cases h
    obtain ⟨p, vs, rfl, q, r⟩ := tup_ok W3 r3
    refine .inr ⟨p, vs, rfl, q, fun hw => ?_, fun _ p' hp => ?_⟩
    · rw [← r.length] at hw
      rw [cut_whole hw] at c3
      exact c3.here W3 r3
    · exact tupV_ok W3 (r.cut _ _) c3 hp
  · split at h
    · rename_i xs hx
      obtain ⟨p, vs, rfl, q, r⟩ := lst_ok W3 r3 hx
      exact .inl ⟨p, vs, rfl, .inl (.inl q), (mkL_ok W3 (r.cut _ _) h c3).2⟩
    · cases h

/-! ### calls -/
theorem snd_callB {x : Str} {p : Pos} {es : List Expr} {id : String} {D : DA} {f : FSem} (hf : SndC X (.builtin id) f) (hg : Gl X x) (hm : X.mg x = none) (hv : bootBuiltins x = some (.builtin id)) (ha : SndA X (e :: es) D) (hn : x ≠ "__name__") (hdb : (x == ("__debug__" : Str)) = false)
    (he : starEach (e :: es) X.env = (false, eval e X.env) :: starEach es X.env) (hpl : (backTo pos (starEach es X.env)).any (·.1) = false) : SndE X (.Call (.Name x p) (e :: es) [] pos) (dApp f D) := by
  intro F ρ env st v st' σ H Q W E h c
  obtain ⟨xs, st1, h1, h⟩ := mb_eq h
  refine wE_of (pe_callB cr_w hg hm hv pa_w hn hdb he hpl) ?_
  exact ha F ρ env st xs st1 σ H _ W E h1 fun F1 ρ1 w1 H1 p1 r1 => hf F1 ρ1 st1 xs w1 v st' H1 Q p1.wld r1 h (Ct.of p1 c)
theorem snd_callTy {x : Str} {p : Pos} {es : List Expr} {T : String} {D : DA} {f : FSem} (hf : SndC X (.type T) f) (hg : Gl X x) (hm : X.mg x = none) (hv : bootBuiltins x = some (.type T)) (ha : SndA X (e :: es) D) (hn : x ≠ "__name__") (hdb : (x == ("__debug__" : Str)) = false)
    (he : starEach (e :: es) X.env = (false, eval e X.env) :: starEach es X.env) (hpl : (backTo pos (starEach es X.env)).any (·.1) = false) : SndE X (.Call (.Name x p) (e :: es) [] pos) (dApp f D) := by
  intro F ρ env st v st' σ H Q W E h c
  obtain ⟨xs, st1, h1, h⟩ := mb_eq h
  refine wE_of (pe_callTy cr_w hg hm hv pa_w hn hdb he hpl) ?_
  exact ha F ρ env st xs st1 σ H _ W E h1 fun F1 ρ1 w1 H1 p1 r1 => hf F1 ρ1 st1 xs w1 v st' H1 Q p1.wld r1 h (Ct.of p1 c)
theorem one_inv {K : PySem.W.Frag} {F : Hp} {ρ : Nat → Addr} {n : Nat} {x : PV} {ws : List V} (r : RelPs K F ρ n [x] ws) : ∃ w, ws = [w] ∧ RelP K F ρ n x w := by
  obtain ⟨w, ws, rfl, h1, h2⟩ := r.inv
  rw [h2.inv0]
  exact ⟨w, rfl, h1⟩
theorem two_inv {K : PySem.W.Frag} {F : Hp} {ρ : Nat → Addr} {n : Nat} {x y : PV} {ws : List V} (r : RelPs K F ρ n [x, y] ws) : ∃ w u, ws = [w, u] ∧ RelP K F ρ n x w ∧ RelP K F ρ n y u := by
  obtain ⟨w, ws, rfl, h1, h2⟩ := r.inv
  obtain ⟨u, rfl, h3⟩ := one_inv h2
  exact ⟨w, u, rfl, h1, h3⟩
theorem three_inv {K : PySem.W.Frag} {F : Hp} {ρ : Nat → Addr} {n : Nat} {x y z : PV} {ws : List V} (r : RelPs K F ρ n [x, y, z] ws) : ∃ w u t, ws = [w, u, t] ∧ RelP K F ρ n x w ∧ RelP K F ρ n y u ∧ RelP K F ρ n z t := by
  obtain ⟨w, ws, rfl, h1, h2⟩ := r.inv
  obtain ⟨u, t, rfl, h3, h4⟩ := two_inv h2
  exact ⟨w, u, t, rfl, h1, h3, h4⟩
theorem sc_len : SndC X (.builtin "len") bLen := by
  intro F ρ st xs ws v st' H Q W r h c
  unfold bLen at h
  split at h
  · split at h
    · rename_i hz
      cases h
      obtain ⟨w, rfl, r1⟩ := one_inv r
      cases str_ok r1
      exact wC_of call_len_str ⟨_, rfl, hz, c.here W (rel_int _)⟩
    · cases h
  · split at h
    · rename_i xs hx
      cases h
      obtain ⟨w, rfl, r1⟩ := one_inv r
      obtain ⟨a, vs, rfl, hq, r2⟩ := seq_ok W r1 hx
      have q := c.here W (rel_int _)
      rw [r2.length] at q
      exact wC_of call_len_seq ⟨a, vs, rfl, hq, q⟩
    · split at h
      · rename_i ks vs hd
        cases h
        obtain ⟨w, rfl, r1⟩ := one_inv r
        exact lenD_ok W r1 hd c
      · cases h
  · cases h
theorem sc_abs : SndC X (.builtin "abs") bAbs := by
  intro F ρ st xs ws v st' H Q W r h c
  unfold bAbs at h
  split at h
  · cases h
    obtain ⟨w, rfl, r1⟩ := one_inv r
    cases int_ok r1
    exact wC_of call_abs ⟨_, rfl, c.here W (rel_int _)⟩
  · cases h
theorem sc_int : SndC X (.type "int") bInt := by
  intro F ρ st xs ws v st' H Q W r h c
  unfold bInt at h
  split at h
  · cases h
    obtain ⟨w, rfl, r1⟩ := one_inv r
    cases int_ok r1
    exact wC_of call_int1 (.inl ⟨_, rfl, c.here W (rel_int _)⟩)
  · cases h
    obtain ⟨w, rfl, r1⟩ := one_inv r
    cases bl_ok r1
    exact wC_of call_int1 (.inr ⟨_, rfl, c.here W (rel_int _)⟩)
  · cases h
theorem maxL_spec : ∀ (x : Int) (r : List Int), maxL (x :: r) ∈ x :: r ∧ ∀ y ∈ x :: r, y ≤ maxL (x :: r)
  | x, [] => ⟨by simp [maxL], fun y h => by simp at h; subst h; exact Int.le_refl _⟩
  | x, z :: r => by
    obtain ⟨h1, h2⟩ := maxL_spec z r
    have e : maxL (x :: z :: r) = max x (maxL (z :: r)) := rfl
    rw [e]
    refine ⟨?_, fun y h => ?_⟩
    · by_cases q : x ≤ maxL (z :: r)
      · rw [Int.max_eq_right q]; exact List.mem_cons_of_mem _ h1
      · rw [Int.max_eq_left (by omega)]; exact List.mem_cons_self
    · rcases List.mem_cons.mp h with rfl | h
      · omega
      · have := h2 y h
        omega
theorem minL_spec : ∀ (x : Int) (r : List Int), minL (x :: r) ∈ x :: r ∧ ∀ y ∈ x :: r, minL (x :: r) ≤ y
  | x, [] => ⟨by simp [minL], fun y h => by simp at h; subst h; exact Int.le_refl _⟩
  | x, z :: r => by
    obtain ⟨h1, h2⟩ := minL_spec z r
    have e : minL (x :: z :: r) = min x (minL (z :: r)) := rfl
    rw [e]
    refine ⟨?_, fun y h => ?_⟩
    · by_cases q : x ≤ minL (z :: r)
      · rw [Int.min_eq_left q]; exact List.mem_cons_self
      · rw [Int.min_eq_right (by omega)]; exact List.mem_cons_of_mem _ h1
    · rcases List.mem_cons.mp h with rfl | h
      · omega
      · have := h2 y h
        omega
theorem sc_max (hc : X.calm = true) : SndC X (.builtin "max") bMax := by
  intro F ρ st xs ws v st' H Q W r h c
  unfold bMax at h
  split at h
  · cases h
    obtain ⟨w, u, rfl, r1, r2⟩ := two_inv r
    cases int_ok r1; cases int_ok r2
    exact wC_of (call_max2 hc) ⟨_, _, rfl, c.here W (rel_int _)⟩
  · cases h
    obtain ⟨w, u, z, rfl, r1, r2, r3⟩ := three_inv r
    cases int_ok r1; cases int_ok r2; cases int_ok r3
    exact wC_of (call_max3 hc) ⟨_, _, _, rfl, c.here W (rel_int _)⟩
  · split at h
    · rename_i xs hx
      split at h
      · rename_i i l hl
        cases h
        obtain ⟨w, rfl, r1⟩ := one_inv r
        obtain ⟨a, vs, rfl, hq, r2⟩ := lst_ok W r1 hx
        have e := r2.intsInv hl
        subst e
        refine wC_of (cr_max hc) ⟨a, i :: l, rfl, .inl (.inl hq), Nat.succ_pos _, fun m h1 h2 => ?_⟩
        obtain ⟨s1, s2⟩ := maxL_spec i l
        have e2 : m = maxL (i :: l) := Int.le_antisymm (s2 m h1) (h2 _ s1)
        rw [e2]
        exact c.here W (rel_int _)
      · cases h
    · cases h
  · cases h
theorem sc_min (hc : X.calm = true) : SndC X (.builtin "min") bMin := by
  intro F ρ st xs ws v st' H Q W r h c
  unfold bMin at h
  split at h
  · cases h
    obtain ⟨w, u, rfl, r1, r2⟩ := two_inv r
    cases int_ok r1; cases int_ok r2
    exact wC_of (call_min2 hc) ⟨_, _, rfl, c.here W (rel_int _)⟩
  · cases h
    obtain ⟨w, u, z, rfl, r1, r2, r3⟩ := three_inv r
    cases int_ok r1; cases int_ok r2; cases int_ok r3
    exact wC_of (call_min3 hc) ⟨_, _, _, rfl, c.here W (rel_int _)⟩
  · split at h
    · rename_i xs hx
      split at h
      · rename_i i l hl
        cases h
        obtain ⟨w, rfl, r1⟩ := one_inv r
        obtain ⟨a, vs, rfl, hq, r2⟩ := lst_ok W r1 hx
        have e := r2.intsInv hl
        subst e
        refine wC_of (cr_min hc) ⟨a, i :: l, rfl, .inl (.inl hq), Nat.succ_pos _, fun m h1 h2 => ?_⟩
        obtain ⟨s1, s2⟩ := minL_spec i l
        have e2 : m = minL (i :: l) := Int.le_antisymm (h2 _ s1) (s2 m h1)
        rw [e2]
        exact c.here W (rel_int _)
      · cases h
    · cases h
  · cases h
theorem sc_tuple : SndC X (.type "tuple") bTuple := by
  intro F ρ st xs ws v st' H Q W r h c
  unfold bTuple at h
  split at h
  · cases h
    obtain ⟨w, rfl, r1⟩ := one_inv r
    obtain ⟨p, vs, rfl, q, r2⟩ := tup_ok W r1
    exact wC_of call_tuple_of ⟨p, vs, rfl, .inr ⟨q, c.here W r1⟩⟩
  · split at h
    · rename_i xs hx
      obtain ⟨w, rfl, r1⟩ := one_inv r
      obtain ⟨a, vs, rfl, hq, r2⟩ := lst_ok W r1 hx
      exact wC_of call_tuple_of ⟨a, vs, rfl, .inl ⟨.inl (.inl hq), (mkT_ok W r2 h c).2⟩⟩
    · cases h
  · cases h
theorem sc_list {m : Bool} : SndC X (.type "list") (bList m) := by
  intro F ρ st xs ws v st' H Q W r h c
  unfold bList at h
  split at h
  · split at h
    · rename_i xs hx
      obtain ⟨w, rfl, r1⟩ := one_inv r
      obtain ⟨a, vs, rfl, hq, r2⟩ := seq_ok W r1 hx
      exact wC_of call_list_of ⟨a, vs, rfl, hq, (mkL_ok W r2 h c).2⟩
    · cases h
  · cases h
theorem sortI_uniq {ns ms : List Int} (hp : ms.Perm ns) (hs : ms.Pairwise (· ≤ ·)) : ms = sortI ns := by
  refine List.Perm.eq_of_pairwise (le := fun a b : Int => a ≤ b) (fun a b _ _ h1 h2 => Int.le_antisymm h1 h2) hs ?_ (hp.trans (List.mergeSort_perm ns _).symm)
  have := List.pairwise_mergeSort (le := fun a b : Int => decide (a ≤ b)) (fun a b c h1 h2 => by simp at h1 h2 ⊢; omega) (fun a b => by simp; omega) ns
  unfold sortI
  refine this.imp fun h => by simpa using h
/-- items with what they are, as values and as data -/
structure SIt where
  p : PV
  w : V
  d : PyData
theorem sits {K : PySem.W.Frag} {F : Hp} {ρ : Nat → Addr} {n : Nat} : ∀ {xs : List PV} {ws : List V} {ds : List PyData}, RelPs K F ρ n xs ws → toDs (fun _ => none) xs = some ds →
    ∃ l : List SIt, l.map SIt.p = xs ∧ l.map SIt.w = ws ∧ l.map SIt.d = ds ∧ ∀ t ∈ l, RelP K F ρ n t.p t.w ∧ t.p.toD (fun _ => none) = some t.d
  | [], _, _, r, h => by
    rw [toDs] at h; cases h
    rw [r.inv0]
    exact ⟨[], rfl, rfl, rfl, fun t (z : t ∈ []) => (by cases z)⟩
  | x :: xs, _, _, r, h => by
    obtain ⟨w, ws, rfl, r1, r2⟩ := r.inv
    rw [toDs] at h
    cases e1 : x.toD (fun _ => none) with
    | none => rw [e1] at h; cases h
    | some d =>
      cases e2 : toDs (fun _ => none) xs with
      | none => rw [e1, e2] at h; cases h
      | some ds =>
        rw [e1, e2] at h; cases h
        obtain ⟨l, h1, h2, h3, h4⟩ := sits r2 e2
        refine ⟨⟨x, w, d⟩ :: l, by rw [List.map_cons, h1], by rw [List.map_cons, h2], by rw [List.map_cons, h3], fun t z => ?_⟩
        rcases List.mem_cons.mp z with rfl | z
        · exact ⟨r1, e1⟩
        · exact h4 t z
theorem each_sits : ∀ {l : List SIt} {us : List Value}, Vals (l.map SIt.w) us → PySem.W.EachIs (fun v (t : SIt) => RelV t.w v) us l
  | [], _, h => by cases h; exact .nil
  | t :: l, _, h => by
    rw [List.map_cons] at h
    cases h with
    | cons h1 h2 => exact .cons h1 (each_sits h2)
theorem sits_each : ∀ {l : List SIt} {us : List Value}, PySem.W.EachIs (fun v (t : SIt) => RelV t.w v) us l → Vals (l.map SIt.w) us
  | [], _, h => by cases h; exact .nil
  | t :: l, _, h => by
    cases h with
    | cons h1 h2 => exact .cons h1 (sits_each h2)
theorem rel_sits {K : PySem.W.Frag} {F : Hp} {ρ : Nat → Addr} {n : Nat} : ∀ {l : List SIt}, (∀ t ∈ l, RelP K F ρ n t.p t.w) → RelPs K F ρ n (l.map SIt.p) (l.map SIt.w)
  | [], _ => .nil
  | t :: l, h => .cons (h t List.mem_cons_self) (rel_sits fun u z => h u (List.mem_cons_of_mem _ z))
theorem leP_sits {l : List SIt} (h : ∀ t ∈ l, t.p.toD (fun _ => none) = some t.d) : (l.map SIt.p).mergeSort leP = (l.mergeSort (PySem.W.dataLe false SIt.d)).map SIt.p := by
  symm
  refine List.map_mergeSort ?_
  intro a ha b hb
  unfold leP
  rw [h a ha, h b hb]
  rw [PySem.W.dataLe_eq]
  rfl
/-- sorted(set(e)), tuples of ints -/
theorem snd_sortedSet {m : Bool} {p p2 pos pos2 : Pos} {e : Expr} {A : DE} (hc : X.calm = true) (hu : X.A.units + 65 < cLine) (hgx : Gl X "sorted") (hmx : X.mg "sorted" = none) (hgy : Gl X "set") (hmy : X.mg "set" = none) (ha : SndA X [e] (aCons A aNil))
    (hs : starEach [e] X.env = (false, eval e X.env) :: starEach [] X.env) : SndE X (.Call (.Name "sorted" p) [.Call (.Name "set" p2) [e] [] pos2] [] pos) (dApp (bSortedSet m) (aCons A aNil)) := by
  intro F ρ env st v st' σ H Q W E h c
  obtain ⟨xs, st1, h1, h⟩ := mb_eq h
  refine wE_of (pe_callB (id := "sorted") cr_w hgx hmx (by decide +kernel) (pa_cons pe_w pa_nil rfl) (by decide +kernel) (by decide +kernel) rfl rfl) ?_
  refine wE_of (pe_callTy (T := "set") cr_w hgy hmy (by decide +kernel) pa_w (by decide +kernel) (by decide +kernel) hs rfl) ?_
  refine ha F ρ env st xs st1 σ H _ W E h1 fun F1 ρ1 w1 H1 p1 r1 => ?_
  unfold bSortedSet at h
  split at h
  · split at h
    · rename_i xs hx
      split at h
      · rename_i ks hk
        split at h
        · rename_i ho
          obtain ⟨h64, d, hd, hb⟩ := okTs_iff.mp ho
          obtain ⟨w, rfl, r2⟩ := one_inv r1
          have W1 := p1.wld
          obtain ⟨a, vs, rfl, hq, r3⟩ := lst_ok W1 r2 hx
          obtain ⟨prs, rfl, rfl, hp⟩ := rel_tups hk r3
          refine wC_of (cr_setOfT hc (by omega)) ⟨a, prs, rfl, .inl (.inl hq), fun q z => W1.sub.sqT (hp q z), by rw [List.length_map] at h64; exact h64, fun b L hbn hL hall => ?_⟩
          have P2 := W1.new (o := SetTO X.prog X.w b L) hbn
          refine wC_of (cr_sortedT hc) ⟨b, L, d, bTup, rfl, upd_same, fun q z => P2.wld.sub.sqT (P2.ex.sqT (hp q (hL q z))), hd, fun q z => hb _ (List.mem_map.mpr ⟨q, hL q z, rfl⟩), fun L' p pm nd h64' pw hn => ?_⟩
          have hm : ∀ q ∈ L', q ∈ prs := fun q z => hL q (pm.mem_iff.mp z)
          have hs : (L'.map (·.2)).Pairwise fun a b => lexLe a b = true := by
            rw [List.pairwise_map]
            refine List.Pairwise.imp_of_mem (fun {u v} hu hv huv => ?_) pw
            obtain ⟨l1, b1⟩ := hb _ (List.mem_map.mpr ⟨u, hm u hu, rfl⟩)
            obtain ⟨l2, b2⟩ := hb _ (List.mem_map.mpr ⟨v, hm v hv, rfl⟩)
            exact lexLe_code (l1.trans l2.symm) b1 b2 huv
          have e := sortT_uniq (ks := uniqT (prs.map (·.2))) (perm_uniqT nd fun x => by
            constructor
            · intro z
              obtain ⟨q, hq2, rfl⟩ := List.mem_map.mp z
              exact List.mem_map.mpr ⟨q, hm q hq2, rfl⟩
            · intro z
              obtain ⟨q, hq2, rfl⟩ := List.mem_map.mp z
              exact (pm.map (·.2)).mem_iff.mpr (hall q hq2)) hs
          rw [← e, List.map_map] at h
          exact (mkL_ok P2.wld (tups_rel fun q z => P2.ex.sqT (hp q (hm q z))) h (Ct.of P2 (Ct.of p1 c))).2 p hn
        · cases h
      · cases h
    · cases h
  · cases h

/-! isinstance -/
theorem sq_ty {K : PySem.W.Frag} {H : Hp} {a : Addr} {vs : List V} (h : SqT K H a vs) : TyX K H (.ref a) (.type "tuple") := by
  rcases h with (h | ⟨o, h⟩) | ⟨o, its, n, h, hc, _⟩
  · exact .base (.tup h)
  · exact .fTuple h
  · exact .kTuple h hc
/-- isinstance of a dict -/
theorem call_isiO {X : Cx} : CallR X (.builtin "isinstance") (fun xs H Q => ∃ (x c : V) (T : String) (u : Value) (b : Bool), xs = [x, c] ∧ ClsV c u ∧ (TyX X.K H x (.type T) ∨ ∃ a ob, x = .ref a ∧ H a = some (dO a ob) ∧ ob.cls = .type "dict" ∧ T = "dict") ∧ PySem.W.kitOne X.K (.type T) u = some b ∧ Q (.bl b) H) := by
  intro pins s σ H xs us Q I r h
  obtain ⟨x, c, T, u, b, rfl, k, ty, e, q⟩ := h
  obtain ⟨u1, u2, rfl, r1, r2⟩ := vals2 r
  have e2 := k.eq r2
  subst e2
  rcases ty with ty | ⟨a, ob, rfl, hH, hc, rfl⟩
  · obtain ⟨P, Z, p, hx⟩ := kit_of I r1 ty
    exact PySem.W.kia_one Z I.kIn p e hx fun tk => ⟨.bl b, H, I.tok tk, rfl, q⟩
  · cases r1
    exact PySem.W.kia_one PySem.W.kitx_dict I.kIn ⟨ob, dO_at I hH, hc⟩ e (fun z => nomatch z) fun tk => ⟨.bl b, H, I.tok tk, rfl, q⟩
theorem isTy_ok {F : Hp} {ρ : Nat → Addr} {st : Sto} {H : Hp} {x : PV} {w : V} {t : BTy} {b : Bool} (W : Wld X.K F ρ st H) (r : RelP X.K F ρ st.nxt x w) (h : isTy t st x = some b) :
    ∃ T : String, (TyX X.K H w (.type T) ∨ ∃ a ob, w = .ref a ∧ H a = some (dO a ob) ∧ ob.cls = .type "dict" ∧ T = "dict") ∧ kitB T t.nameS = some b := by
  unfold isTy at h
  split at h
  · cases h
    rw [non_ok r]
    exact ⟨_, .inl (.base .non), by cases t <;> decide +kernel⟩
  · cases h
    rw [bl_ok r]
    exact ⟨_, .inl (.base (.bl _)), by cases t <;> decide +kernel⟩
  · cases h
    rw [int_ok r]
    exact ⟨_, .inl (.base (.int _)), by cases t <;> decide +kernel⟩
  · cases h
    rw [str_ok r]
    exact ⟨_, .inl (.base (.str _)), by cases t <;> decide +kernel⟩
  · cases h
    obtain ⟨p, vs, rfl, q, r2⟩ := tup_ok W r
    exact ⟨_, .inl (sq_ty q), by cases t <;> decide +kernel⟩
  · cases h
    rw [RelP] at r
    obtain ⟨p, vs, rfl, q, r2⟩ := r
    exact ⟨_, .inl (.base (.lst (W.sub _ _ q))), by cases t <;> decide +kernel⟩
  · cases h
  · rename_i ks vs
    cases h
    obtain ⟨p, ob, kws, vws, rfl, hH, _, _, d⟩ := dct_ok (x := .dct ks vs) W r rfl
    exact ⟨"dict", .inr ⟨p, ob, rfl, hH, d.1.1, rfl⟩, by cases t <;> decide +kernel⟩
  · cases h
  · split at h
    · rename_i l _ _ hl
      cases h
      rw [RelP] at r
      obtain ⟨_, rfl⟩ := r
      obtain ⟨_, vs, e, _⟩ := W.cell l _ hl
      exact ⟨_, .inl (.base (.lst e)), by cases t <;> decide +kernel⟩
    · rename_i l _ ks vs hl
      cases h
      rw [RelP] at r
      obtain ⟨_, rfl⟩ := r
      obtain ⟨_, ob, kws, vws, e, _, _, d⟩ := W.cell l _ hl
      exact ⟨"dict", .inr ⟨_, ob, rfl, e, d.1.1, rfl⟩, by cases t <;> decide +kernel⟩
    · cases h
theorem bty_boot (t : BTy) : bootBuiltins t.name = some (.type t.nameS) := by cases t <;> decide +kernel
theorem bty_name (t : BTy) : t.name ≠ "__name__" := by cases t <;> decide +kernel
theorem bty_dbg (t : BTy) : (t.name == ("__debug__" : Str)) = false := by cases t <;> decide +kernel
theorem snd_isi {x : Str} {p p2 : Pos} {t : BTy} (hx : x = "isinstance") (hg : Gl X x) (hm : X.mg x = none) (hg2 : Gl X t.name) (hm2 : X.mg t.name = none) (ha : SndE X a A)
    (he : starEach [a, .Name t.name p2] X.env = (false, eval a X.env) :: starEach [.Name t.name p2] X.env) : SndE X (.Call (.Name x p) [a, .Name t.name p2] [] pos) (dUn (bIsi t) A) := by
  subst hx
  intro F ρ env st v st' σ H Q W E h c
  obtain ⟨z, st1, h1, h⟩ := mb_eq h
  unfold bIsi at h
  cases hb : isTy t st1 z with
  | none => rw [hb] at h; cases h
  | some b =>
    rw [hb] at h; cases h
    have ht : PE X (.Name t.name p2) (tC (.ty t.nameS)) := pe_bltn hg2 hm2 (bty_boot t) rfl (bty_name t) (bty_dbg t)
    refine wE_of (pe_callB call_isiO hg hm (by decide +kernel) (pa_cons pe_w (pa_cons ht pa_nil rfl) he) (by decide +kernel) (by decide +kernel) he rfl) ?_
    refine ha F ρ env st z _ σ H _ W E h1 fun F1 ρ1 w1 H1 p1 r1 => ?_
    obtain ⟨T, ty, k⟩ := isTy_ok p1.wld r1 hb
    exact ⟨w1, _, T, _, b, rfl, .ty _, ty, kit_ty k, (Ct.of p1 c).here p1.wld (rel_bl _)⟩

/-! methods of lists -/
theorem lbs_sub {n : Nat} {xs ys : List PV} (h : ∀ x ∈ ys, x ∈ xs) (q : lbs n xs = true) : lbs n ys = true := by
  rw [lbs_all, List.all_eq_true] at q ⊢
  exact fun x z => q x (h x z)
theorem snd_met0 {id : String} {name : Str} {apos : Pos} {f : Nat → FSem} (slot : Slot "list" name id) (hty : typeOf (.builtin id) = pure (.type "method_descriptor")) (hf : SndM X id f)
    (ha : SndE X a A) (hbase : attributeBase a name X.env (eval a X.env) = eval a X.env) (hline : (apos.endLine == pos.line) = true) : SndE X (.Call (.Attribute a name apos) [] [] pos) (dMetL f A aNil) := by
  intro F ρ env st v st' σ H Q W E h c
  obtain ⟨x, st1, h1, h⟩ := mb_eq h
  obtain ⟨l, st2, h2, h⟩ := mb_eq h
  obtain ⟨rfl, rfl, xs, hl⟩ := asL_eq h2
  have h : f l [] st1 = some (v, st') := h
  refine wE_of (pe_bm0 PySem.F.plainAttrs_list slot hty mr_w pe_w hbase hline) ?_
  refine ha F ρ env st _ st1 σ H _ W E h1 fun F1 ρ1 w1 H1 p1 r1 => ?_
  rw [RelP] at r1
  obtain ⟨_, rfl⟩ := r1
  obtain ⟨_, vs, e, _⟩ := p1.wld.cell l _ hl
  exact ⟨.inl ⟨rfl, vs, .inl (.inl e)⟩, hf F1 ρ1 st1 l [] [] v st' H1 Q p1.wld .nil h (Ct.of p1 c)⟩
theorem snd_met {id : String} {name : Str} {apos : Pos} {es : List Expr} {D : DA} {f : Nat → FSem} (slot : Slot "list" name id) (hty : typeOf (.builtin id) = pure (.type "method_descriptor")) (hf : SndM X id f)
    (ha : SndE X a A) (hes : SndA X (e :: es) D) (hbase : attributeBase a name X.env (eval a X.env) = eval a X.env)
    (hfew : ((backTo pos (starEach (e :: es) X.env)).all (fun x => !x.1) && (backToKw pos (keywordEach [] X.env)).all (fun x => x.1.isSome) && decide ((e :: es).length + ([] : List Keyword).length + (if ([] : List Keyword).isEmpty then 0 else 1) < 30)) = true)
    (hline : (apos.endLine == pos.line) = true) (hs : starEach (e :: es) X.env = (false, eval e X.env) :: starEach es X.env) (hplain : (backTo pos (starEach es X.env)).any (·.1) = false) :
    SndE X (.Call (.Attribute a name apos) (e :: es) [] pos) (dMetL f A D) := by
  intro F ρ env st v st' σ H Q W E h c
  obtain ⟨x, st1, h1, h⟩ := mb_eq h
  obtain ⟨l, st2, h2, h⟩ := mb_eq h
  obtain ⟨rfl, rfl, xs, hl⟩ := asL_eq h2
  obtain ⟨ys, st3, h3, h⟩ := mb_eq h
  refine wE_of (pe_bm PySem.F.plainAttrs_list slot hty mr_w pe_w pa_w hbase hfew hline hs hplain) ?_
  refine ha F ρ env st _ st1 σ H _ W E h1 fun F1 ρ1 w1 H1 p1 r1 => ?_
  have r1' := r1
  rw [RelP] at r1
  obtain ⟨_, rfl⟩ := r1
  obtain ⟨_, vs, e, _⟩ := p1.wld.cell l _ hl
  refine ⟨.inl ⟨rfl, vs, .inl (.inl e)⟩, hes F1 ρ1 env st1 ys st3 σ H1 _ p1.wld (E.step p1) h3 fun F2 ρ2 ws H2 p2 r2 => ?_⟩
  have r3 := r1'.step p2
  rw [RelP] at r3
  rw [r3.2]
  exact hf F2 ρ2 st3 l ys ws v st' H2 Q p2.wld r2 h (Ct.of (p1.trans p2) c)
theorem sm_append : SndM X "list.append" mAppend := by
  intro F ρ st l xs ws v st' H Q W r h c
  unfold mAppend at h
  split at h
  · rename_i y
    split at h
    · rename_i ys hl
      split at h
      · rename_i hz
        cases h
        rw [Bool.and_eq_true, decide_eq_true_eq] at hz
        obtain ⟨w, rfl, r1⟩ := one_inv r
        obtain ⟨_, vs, e, rc⟩ := W.cell l _ hl
        refine wM_of (fun pins s σ H x xs v us Q I r1 r2 h => mt_append pins s σ H x xs v us Q I r1 r2 h) ⟨_, vs, w, rfl, rfl, e, by rw [← rc.length]; exact hz.1, ?_⟩
        refine c _ _ _ _ (W.set hl (c := .lst (ys ++ [y])) (by have := st.wc l _ hl; show lbs _ _ = true; rw [lbs_append, lbs_cons, lbs_nil, hz.2, show lbs st.nxt ys = true from this]; rfl) ⟨_, rfl, rc.append (.cons r1 .nil)⟩) rel_non
      · cases h
    · cases h
  · cases h
theorem sm_pop : SndM X "list.pop" mPop := by
  intro F ρ st l xs ws v st' H Q W r h c
  unfold mPop at h
  split at h
  · split at h
    · rename_i ys hl
      split at h
      · rename_i y hy
        cases h
        cases r.inv0
        obtain ⟨_, vs, e, rc⟩ := W.cell l _ hl
        obtain ⟨w, hw, rw'⟩ := rc.get hy
        refine wM_of (fun pins s σ H x xs v us Q I r1 r2 h => mt_pop pins s σ H x xs v us Q I r1 r2 h) ⟨_, vs, w, rfl, rfl, e, by rw [← rc.length]; exact hw, ?_⟩
        exact c _ _ _ _ (W.set hl (c := .lst ys.dropLast) (lbs_sub (fun x z => List.dropLast_subset _ z) (st.wc l _ hl)) ⟨_, rfl, rc.dropLast⟩) rw'
      · cases h
    · cases h
  · cases h
theorem sm_reverse : SndM X "list.reverse" mReverse := by
  intro F ρ st l xs ws v st' H Q W r h c
  unfold mReverse at h
  split at h
  · split at h
    · rename_i ys hl
      cases h
      cases r.inv0
      obtain ⟨_, vs, e, rc⟩ := W.cell l _ hl
      refine wM_of (fun pins s σ H x xs v us Q I r1 r2 h => mt_reverse pins s σ H x xs v us Q I r1 r2 h) ⟨_, vs, rfl, rfl, e, ?_⟩
      exact c _ _ _ _ (W.set hl (c := .lst ys.reverse) (lbs_sub (fun x z => List.mem_reverse.mp z) (st.wc l _ hl)) ⟨_, rfl, rc.reverse⟩) rel_non
    · cases h
  · cases h

/-! ### calls of the text's own defs -/
/-- the promise: what D computes -/
def spOf (K : PySem.W.Frag) (np : Nat) (D : FSem) : Sp := fun vs H Q _ => vs.length = np ∧ ∃ F ρ st args v st', Wld K F ρ st H ∧ RelPs K F ρ st.nxt args vs ∧ D args st = some (v, st') ∧ Ct K F ρ st H v st' Q
theorem settle_ok {F F1 : Hp} {ρ ρ1 : Nat → Addr} {st st1 st2 : Sto} {H H1 : Hp} {v v' : PV} {w : V} {K : PySem.W.Frag} (p : Pst K F ρ st H F1 ρ1 st1 H1) (r : RelP K F1 ρ1 st1.nxt v w) (h : settle st.nxt v st1 = some (v', st2)) :
    ∃ F2, Pst K F ρ st H F2 ρ1 st2 H1 ∧ RelP K F2 ρ1 st2.nxt v' w := by
  unfold settle at h
  cases e : v.res st.nxt st1.cs with
  | none => rw [e] at h; cases h
  | some u =>
    rw [e] at h; cases h
    obtain ⟨F2, s, p2, f, _⟩ := p.drop rfl
    exact ⟨F2, p2, r.res p.wld s f e⟩
theorem snd_call {x : Str} {p : Pos} {es : List Expr} {D : DA} {f : Addr} {fd : FuncData} {ps : List Str} {k np : Nat} {S : FSem} {adopt : Bool} (G : FnOk X.prog X.w X.K X.mg X.base CX0 k f fd ps (spOf X.K np S)) (hr : Room k X.A) (hg : Gl X x) (hm : X.mg x = some (.ref f)) (hk : PySem.W.keepIn X.K (.ref f) = true) (hb : Binds X.K fd ps [])
    (hnp : (e :: es).length = np) (ha : SndA X (e :: es) D) (hlen : ∀ env st xs st', D env st = some (xs, st') → xs.length = np) (hdb : (x == ("__debug__" : Str)) = false) (he : starEach (e :: es) X.env = (false, eval e X.env) :: starEach es X.env) (hpl : (backTo pos (starEach es X.env)).any (·.1) = false) :
    SndE X (.Call (.Name x p) (e :: es) [] pos) (dCall S adopt D) := by
  intro F ρ env st v st' σ H Q W E h c
  obtain ⟨xs, st1, h1, h⟩ := mb_eq h
  obtain ⟨u, st2, h2, h⟩ := mb_eq h
  refine wE_of (pe_call G hr hg hm hk hb .nil pass0 pa_w hdb he hpl) ?_
  refine ha F ρ env st xs st1 σ H _ W E h1 fun F1 ρ1 ws H1 p1 r1 => ?_
  rw [List.append_nil]
  refine ⟨by rw [← r1.length]; exact hlen _ _ _ _ h1, F1, ρ1, st1, xs, u, st2, p1.wld, r1, h2, fun F2 ρ2 w H2 p2 r2 => ?_⟩
  split at h
  · cases h
    exact c F2 ρ2 w H2 (p1.trans p2) r2
  · obtain ⟨F3, p3, r3⟩ := settle_ok p2 r2 h
    exact c F3 ρ2 w H2 (p1.trans p3) r3
end
end DL

/-! DLM: sorted of a dict, sum, more methods of lists. -/
namespace DL
open PySem PySem.Spec PyProof.Rows L2

mutual
theorem reads_lt {h : Heap} : ∀ {v : Value} {d : PyData} {as : List Addr}, Reads h v d as → ∀ b ∈ as, b < h.objs.size
  | _, _, _, .none, _, z => by cases z
  | _, _, _, .bool _, _, z => by cases z
  | _, _, _, .int _ _, _, z => by cases z
  | _, _, _, .str _ _, _, z => by cases z
  | _, _, _, .list h1 _ _ h4, b, z => by
    rcases List.mem_cons.mp z with rfl | z
    · exact Heap.lt_size h1
    · exact readsAll_lt h4 b z
  | _, _, _, .tuple _ _ _ h4, b, z => readsAll_lt h4 b z
  | _, _, _, .dict h1 _ _ h4 h5, b, z => by
    rcases List.mem_append.mp z with z | z
    · rcases List.mem_cons.mp z with rfl | z
      · exact Heap.lt_size h1
      · exact readsAll_lt h4 b z
    · exact readsAll_lt h5 b z
theorem readsAll_lt {h : Heap} : ∀ {vs : List Value} {ds : List PyData} {as : List Addr}, ReadsAll h vs ds as → ∀ b ∈ as, b < h.objs.size
  | _, _, _, .nil, _, z => by cases z
  | _, _, _, .cons h1 h2, b, z => by
    rcases List.mem_append.mp z with z | z
    · exact reads_lt h1 b z
    · exact readsAll_lt h2 b z
end
section
variable {prog : Program} {w : World} {A : Around} {E : Value → Shared → Prop} {s : Shared} {β : Type} {bs : List β} {enc : β → PyData} {R : Value → β → Prop}
open PySem.W PySem.Calls PyProof.V in
/-- what is collected off a dict, in a heap that has grown -/
theorem collect_dict {T : String} {r d : Addr} {n : Nat} {P : Nat → Value → Prop} {OK : Heap → Prop} {Q : List Value → Shared → Prop} (K : KdlSrc prog w T r d n P OK) (hh : A.handled = none) (hok : OK s.heap) (hn : n ≤ sizeLine)
    (h : ∀ (h' : Heap) (tk : Nat) (acc : Array Value), (∀ b u, s.heap.get? b = some u → h'.get? b = some u) → s.heap.objs.size ≤ h'.objs.size → ItemsOf P acc n → Q acc.toList { s with heap := h', toks := tk }) : wpAny (model prog w) A (collect (.ref r)) Q E s := by
  have hlt := K.there _ hok
  have key := kdl_extend (A := A) (s := { s with heap := s.heap.push { cls := .type "list", data := .seq ([] : List Value).toArray } })
    (R := fun (q : Result) (s' : Shared) => ∃ (h' : Heap) (tk : Nat) (acc' : Array Value) (c' : Nat), q = .ok (.ret (.ref s.heap.objs.size)) ∧ s' = { s with heap := h', toks := tk } ∧
      (∀ b u, s.heap.get? b = some u → h'.get? b = some u) ∧ h'.get? s.heap.objs.size = some { cls := .type "list", dict := none, data := .seq acc' c', slots := #[] } ∧ ItemsOf P acc' n)
    K hh (K.keep _ _ hok fun b _ u q => Heap.get?_push_of_some _ q) s.heap.objs.size (Nat.ne_of_gt hlt.1) (Nat.ne_of_gt hlt.2) (.ref s.heap.objs.size) 0 (Heap.get?_push_size _ rfl)
    (fun h' tk acc' c' hk hS hacc => ⟨h', tk, acc', c', rfl, rfl, fun b u q => hk b u (Nat.ne_of_lt (Heap.lt_size q)) (Heap.get?_push_of_some _ q), hS, hacc⟩) hn
  unfold collect
  refine wpAny_bind (wpAny_runValue (codeAny_builtin entry_proto_collect' ?_))
  rw [Around.under_plainId PySem.F.plain_proto_collect _]
  show wpAny _ A.in1 (newList [] >>= fun l => again (.builtin "list.__iadd__" ⟨[l, .ref r], []⟩)) _ _ s
  refine wpAny_bind (wpAny_newObj_type ?_)
  refine wpAny_pure ⟨plainId_quiet PySem.F.plain_list_iadd _, codeAny_builtin entry_list_iadd' ?_⟩
  rw [Around.under_plainId PySem.F.plain_list_iadd _]
  show wpAny _ A.in1 (Builtin.List.listExtendWith (.ref s.heap.objs.size) (.ref r) (.ref s.heap.objs.size)) _ _ _
  refine wpAny_mono key (fun fin s' x => ?_) fun e s' x => ?_
  · cases fin with
    | done f =>
      obtain ⟨h', tk, acc', c', e, rfl, hk, hS', hacc⟩ := x
      cases e
      show wpAny _ A (load s.heap.objs.size >>= _) _ _ _
      exact wpAny_bind (wpAny_load hS' (wpAny_pure (h h' tk acc' hk (Nat.le_of_lt (Heap.lt_size hS')) hacc)))
    | again c =>
      refine ⟨x.1, codeAny_mono x.2 fun q s2 y => ?_⟩
      obtain ⟨h', tk, acc', c', rfl, rfl, hk, hS', hacc⟩ := y
      show wpAny _ A (load s.heap.objs.size >>= _) _ _ _
      exact wpAny_bind (wpAny_load hS' (wpAny_pure (h h' tk acc' hk (Nat.le_of_lt (Heap.lt_size hS')) hacc)))
  · obtain ⟨_, _, _, _, e', _⟩ := x
    cases e'
open PySem.W PySem.Calls PyProof.V in
theorem sorted_dict {d : Addr} {o : Obj} {es : Array DictEntry} {ep : Nat} {Q : Value → Shared → Prop} (hh : A.handled = none) (lo : (d == sysModules) = false) (hd : s.heap.get? d = some o) (hx : o.ExactDict) (hdat : o.data = .dict es ep) (hn : es.size ≤ sizeLine)
    (e : EachIs R (es.toList.map (·.key)) bs) (er : EachIs (fun v b => ∃ as, Reads s.heap v (enc b) as) (es.toList.map (·.key)) bs) (hal : AllAlike (bs.map enc)) (hk : Sortable (bs.map enc)) (hL : bs.length ≤ sizeLine)
    (hu : ∀ b, b ∈ bs → A.units + 2 + (enc b).depth < cLine)
    (h : ∀ (h' : Heap) (tk : Nat) (D : Addr) (out : List Value), (∀ b u, s.heap.get? b = some u → h'.get? b = some u) → s.heap.objs.size ≤ D → EachIs R out (bs.mergeSort (dataLe false enc)) → (∃ c, h'.get? D = some (seqObj "list" (List.toArray out) c)) → Q (.ref D) { s with heap := h', toks := tk }) :
    wpAny (model prog w) A (call (.builtin "sorted") [.ref d]) Q E s := by
  refine call_function_entry kind_sorted plain_sorted entry_sorted (args_sorted1 _) ?_
  unfold Builtin.«sorted»
  refine wpAny_bind (m := checkCount "sorted" 1 1 _) (wpAny_pure ?_)
  refine wpAny_bind (collect_dict (A := A.in1) (L2.kdl_raw lo hx hdat) hh hd hn fun h' tk acc hk' hsz hacc => ?_)
  have el : acc.toList = es.toList.map (·.key) := by
    apply List.ext_getElem?
    intro j
    rw [List.getElem?_map]
    cases ej : acc.toList[j]? with
    | none =>
      have : acc.toList.length ≤ j := List.getElem?_eq_none_iff.mp ej
      rw [List.getElem?_eq_none (by have := hacc.1; rw [Array.length_toList] at *; omega)]; rfl
    | some v =>
      obtain ⟨en, e1, e2⟩ := hacc.2 j v (by rw [← Array.getElem?_toList]; exact ej)
      rw [Array.getElem?_toList, e1, e2]; rfl
  have hl : acc.toList.length = es.size := by rw [Array.length_toList]; exact hacc.1
  refine wpAny_bind (wpAny_newList ?_ (by rw [hl]; exact hn))
  have hp : ∀ b u, s.heap.get? b = some u → (h'.push { cls := .type "list", data := .seq acc.toList.toArray }).get? b = some u := fun b u q => Heap.get?_push_of_some _ (hk' b u q)
  have er' : EachIs (fun v b => ∃ as, Reads (h'.push { cls := .type "list", data := .seq acc.toList.toArray }) v (enc b) as ∧ h'.objs.size ∉ as) acc.toList bs := by
    have er0 : EachIs (fun v b => ∃ as, Reads (h'.push { cls := .type "list", data := .seq acc.toList.toArray }) v (enc b) as ∧ h'.objs.size ∉ as) (es.toList.map (·.key)) bs := er.mono fun v b ⟨as, r⟩ => ⟨as, Reads.keeps hp r, fun z => absurd (Nat.lt_of_lt_of_le (reads_lt r _ z) hsz) (Nat.lt_irrefl _)⟩
    rw [← el] at er0
    exact er0
  have key := list_sort_data (prog := prog) (w := w) (A := A.in1) (E := E) (s := { s with heap := h'.push { cls := .type "list", data := .seq acc.toList.toArray }, toks := tk }) (a := h'.objs.size) (vs := acc.toList) (n := 0) (R := R) (enc := enc) (bs := bs)
    (Q := fun _ s' => Q (.ref h'.objs.size) s') (Heap.get?_push_size _ rfl) (by rw [el]; exact e) er' hal hk hL (fun b z => by have := hu b z; show A.units + 1 + 1 + (enc b).depth < cLine; omega) fun out ho eo => ?_
  · refine wpAny_bind (wpAny_holding (wpAny_mono key (fun _ s' x => ?_) fun _ _ e => e))
    exact wpAny_pure ⟨_, rfl, x⟩
  · refine h _ tk h'.objs.size out (fun b u q => ?_) hsz eo (sortedHeap_at (n := 0) (Heap.get?_push_size _ rfl))
    have hlt := Heap.lt_size (hk' b u q)
    rw [sortedHeap_old (Nat.ne_of_lt hlt) (by rw [size_push']; exact Nat.lt_succ_of_lt hlt)]
    exact hp b u q
open PySem.W PySem.Calls PyProof.V in
/-- what is collected off a tuple -/
theorem collect_tup {it : Addr} {o : Obj} {items : Array Value} {n : Nat} {Q : List Value → Shared → Prop} (ho : s.heap.get? it = some o) (hc : o.cls = .type "tuple") (hd : o.data = .seq items n) (hsz : items.size ≤ sizeLine)
    (hQ : ∀ h' : Heap, (∀ b o', s.heap.get? b = some o' → h'.get? b = some o') → s.heap.objs.size ≤ h'.objs.size → Q items.toList { s with heap := h' }) : wpAny (model prog w) A (collect (.ref it)) Q E s := by
  unfold collect
  refine wpAny_bind (wpAny_runValue (codeAny_builtin PySem.F.entry_proto_collect ?_))
  rw [Around.under_plainId PySem.F.plain_proto_collect _]
  show wpAny _ A.in1 (newList [] >>= fun l => again (.builtin "list.__iadd__" ⟨[l, .ref it], []⟩)) _ _ s
  refine wpAny_bind (wpAny_newObj_type ?_)
  refine wpAny_pure ⟨plainId_quiet PySem.F.plain_list_iadd _, codeAny_builtin PySem.F.entry_list_iadd ?_⟩
  rw [Around.under_plainId PySem.F.plain_list_iadd _]
  show wpAny _ A.in1 (Builtin.List.listExtendWith (.ref s.heap.objs.size) (.ref it) (.ref s.heap.objs.size)) _ _ _
  have hS : (s.heap.push { cls := .type "list", data := .seq ([] : List Value).toArray }).get? s.heap.objs.size = some { cls := .type "list", data := .seq #[] 0 } := Heap.get?_push_size _ rfl
  have hS₂ := Heap.get?_update_self (Obj.mapSeq (· ++ items)) hS rfl
  have fin' : wpAny (model prog w) A (match Value.ref s.heap.objs.size with
      | Value.ref a => do
        match (← load a).data with
          | Data.seq xs _ => pure xs.toList
          | _ => unsupported "internal:collect"
      | _ => unsupported "internal:collect") Q E { s with heap := (s.heap.push { cls := .type "list", data := .seq ([] : List Value).toArray }).update s.heap.objs.size (Obj.mapSeq (· ++ items)) } := by
    show wpAny _ A (load s.heap.objs.size >>= _) _ _ _
    refine wpAny_bind (wpAny_load hS₂ ?_)
    refine wpAny_pure ?_
    have e : ((#[] : Array Value) ++ items).toList = items.toList := by simp
    show Q ((#[] : Array Value) ++ items).toList _
    rw [e]
    refine hQ _ (fun b o' hb => ?_) ?_
    · exact (Heap.get?_update_other _ _ (Nat.ne_of_gt (Heap.lt_size hb))).trans (Heap.get?_push_of_some _ hb)
    · exact Nat.le_of_lt (Heap.lt_size hS₂)
  refine wpAny_mono (wpAny_extend_seq (hsz := hsz) (A := A) (R := fun r s' => r = .ok (.ret (.ref s.heap.objs.size)) ∧ s' = { s with heap := (s.heap.push { cls := .type "list", data := .seq ([] : List Value).toArray }).update s.heap.objs.size (Obj.mapSeq (· ++ items)) })
    (s := { s with heap := s.heap.push { cls := .type "list", data := .seq ([] : List Value).toArray } }) _ it _ 0 (.inr rfl) hS (Heap.get?_push_of_some _ ho) hc hd ⟨rfl, rfl⟩) (fun fin s' h => ?_) (fun e s' h => ?_)
  · cases fin with
    | done f =>
      obtain ⟨e, rfl⟩ := h
      cases e
      exact fin'
    | again c' => exact ⟨h.1, codeAny_mono h.2 fun r s'' hr => by obtain ⟨rfl, rfl⟩ := hr; exact fin'⟩
  · exact absurd h.1 (by simp)
open PySem.W PySem.Calls PyProof.V in
theorem sorted_tup {d : Addr} {o : Obj} {items : Array Value} {ep : Nat} {Q : Value → Shared → Prop} (hd : s.heap.get? d = some o) (hc : o.cls = .type "tuple") (hdat : o.data = .seq items ep) (hn : items.size ≤ sizeLine)
    (e : EachIs R items.toList bs) (er : EachIs (fun v b => ∃ as, Reads s.heap v (enc b) as) items.toList bs) (hal : AllAlike (bs.map enc)) (hk : Sortable (bs.map enc)) (hL : bs.length ≤ sizeLine)
    (hu : ∀ b, b ∈ bs → A.units + 2 + (enc b).depth < cLine)
    (h : ∀ (h' : Heap) (tk : Nat) (D : Addr) (out : List Value), (∀ b u, s.heap.get? b = some u → h'.get? b = some u) → s.heap.objs.size ≤ D → EachIs R out (bs.mergeSort (dataLe false enc)) → (∃ c, h'.get? D = some (seqObj "list" (List.toArray out) c)) → Q (.ref D) { s with heap := h', toks := tk }) :
    wpAny (model prog w) A (call (.builtin "sorted") [.ref d]) Q E s := by
  refine call_function_entry kind_sorted plain_sorted entry_sorted (args_sorted1 _) ?_
  unfold Builtin.«sorted»
  refine wpAny_bind (m := checkCount "sorted" 1 1 _) (wpAny_pure ?_)
  refine wpAny_bind (collect_tup (A := A.in1) hd hc hdat hn fun h' hk' hsz => ?_)
  refine wpAny_bind (wpAny_newList ?_ (by rw [Array.length_toList]; exact hn))
  have hp : ∀ b u, s.heap.get? b = some u → (h'.push { cls := .type "list", data := .seq items.toList.toArray }).get? b = some u := fun b u q => Heap.get?_push_of_some _ (hk' b u q)
  have er' : EachIs (fun v b => ∃ as, Reads (h'.push { cls := .type "list", data := .seq items.toList.toArray }) v (enc b) as ∧ h'.objs.size ∉ as) items.toList bs := er.mono fun v b ⟨as, r⟩ => ⟨as, Reads.keeps hp r, fun z => absurd (Nat.lt_of_lt_of_le (reads_lt r _ z) hsz) (Nat.lt_irrefl _)⟩
  have key := list_sort_data (prog := prog) (w := w) (A := A.in1) (E := E) (s := { s with heap := h'.push { cls := .type "list", data := .seq items.toList.toArray } }) (a := h'.objs.size) (vs := items.toList) (n := 0) (R := R) (enc := enc) (bs := bs)
    (Q := fun _ s' => Q (.ref h'.objs.size) s') (Heap.get?_push_size _ rfl) e er' hal hk hL (fun b z => by have := hu b z; show A.units + 1 + 1 + (enc b).depth < cLine; omega) fun out ho eo => ?_
  · refine wpAny_bind (wpAny_holding (wpAny_mono key (fun _ s' x => ?_) fun _ _ e => e))
    exact wpAny_pure ⟨_, rfl, x⟩
  · refine h _ s.toks h'.objs.size out (fun b u q => ?_) hsz eo (sortedHeap_at (n := 0) (Heap.get?_push_size _ rfl))
    have hlt := Heap.lt_size (hk' b u q)
    rw [sortedHeap_old (Nat.ne_of_lt hlt) (by rw [size_push']; exact Nat.lt_succ_of_lt hlt)]
    exact hp b u q
end
section
variable {X : Cx}
theorem esr_keys : ∀ {ks : List PV} {kws vws : List V} {es : List DictEntry}, EsR ks kws vws es → Vals kws (es.map (·.key))
  | [], _, _, _, h => by
    obtain ⟨rfl, _, rfl⟩ := h
    exact .nil
  | k :: ks, _, _, _, h => by
    obtain ⟨a, as, b, bs, e, es, rfl, _, rfl, _, h4, _, h⟩ := h
    exact .cons h4 (esr_keys h)
theorem esr_len : ∀ {ks : List PV} {kws vws : List V} {es : List DictEntry}, EsR ks kws vws es → es.length = ks.length
  | [], _, _, _, h => by
    obtain ⟨_, _, rfl⟩ := h
    rfl
  | k :: ks, _, _, _, h => by
    obtain ⟨a, as, b, bs, e, es, _, _, rfl, _, _, _, h⟩ := h
    rw [List.length_cons, List.length_cons, esr_len h]
theorem each_reads {pins : List (Addr × Obj)} {σ : L2.St} {s : Shared} {F : Hp} {ρ : Nat → Addr} {n : Nat} {H : Hp} (I : Inv X pins σ H s) (sub : Sub F H) : ∀ {l : List SIt} {its : List Value}, (∀ t ∈ l, RelP X.K F ρ n t.p t.w ∧ t.p.toD (fun _ => none) = some t.d) → Vals (l.map SIt.w) its → PySem.W.EachIs (fun v (t : SIt) => ∃ as, Reads s.heap v t.d as) its l
  | [], _, _, h => by cases h; exact .nil
  | t :: l, _, hl, h => by
    rw [List.map_cons] at h
    cases h with
    | cons h1 h2 =>
      obtain ⟨q1, q2⟩ := hl t List.mem_cons_self
      exact .cons (Dp.reads I _ _ _ (dp_ok sub q1 q2) h1) (each_reads I sub (fun u z => hl u (List.mem_cons_of_mem _ z)) h2)
theorem sc_sorted {m : Bool} (hc : X.calm = true) (hu : X.A.units + 65 < cLine) : SndC X (.builtin "sorted") (bSorted m) := by
  intro F ρ st xs ws v st' H Q W r h c
  unfold bSorted at h
  split at h
  · split at h
    · rename_i xs hx
      unfold sortGo at h
      split at h
      · rename_i ds hds
        split at h
        · rename_i ho
          obtain ⟨o1, o2, o3, o4⟩ := okSort_iff.mp ho
          obtain ⟨w, rfl, r1⟩ := one_inv r
          obtain ⟨a, vs, rfl, hq, r2⟩ := lst_ok W r1 hx
          obtain ⟨l, rfl, rfl, rfl, hl⟩ := sits r2 hds
          rw [leP_sits fun t z => (hl t z).2] at h
          intro pins s σ us I ru
          obtain ⟨u, rfl, ru1⟩ := vals1 ru
          obtain rfl : u = Value.ref a := ru1
          obtain ⟨hz, its, k, rv, hg⟩ := (show ObjOk X.prog X.w H s.heap a (.lst _) from I.hok a _ hq)
          have er : PySem.W.EachIs (fun v (t : SIt) => ∃ as, Reads s.heap v t.d as) its l := each_reads I W.sub hl rv
          refine PySem.W.sorted_data (enc := SIt.d) ⟨_, hg, rfl, k, rfl⟩ (each_sits rv) er o1 o2 (by rw [List.length_map] at o3; exact o3) (fun b z => by have h30 := o4 b.d (List.mem_map.mpr ⟨b, z, rfl⟩); show X.A.units + 2 + b.d.depth < cLine; omega) fun out ho1 ho2 => ?_
          have hlen : (l.mergeSort (PySem.W.dataLe false SIt.d)).length = l.length := List.length_mergeSort _
          have hlp : ∀ t ∈ l.mergeSort (PySem.W.dataLe false SIt.d), RelP X.K F ρ st.nxt t.p t.w := fun t z => (hl t (List.mem_mergeSort.mp z)).1
          obtain ⟨hw, hq'⟩ := mkL_ok W (rel_sits hlp) h c
          obtain ⟨ep, he'⟩ := PyProof.Rows.sortedAll_at s.heap its (List.toArray out)
          exact ⟨.ref _, upd H (s.heap.objs.size + 1) (.lst ((l.mergeSort (PySem.W.dataLe false SIt.d)).map SIt.w)), I.laid (t' := s.toks) (fun _ _ => PyProof.Rows.sortedAll_old) (Nat.le_succ _) ⟨hw, out, ep, sits_each ho2, he'⟩, rfl, hq' _ (I.hok.fresh (Nat.le_succ _))⟩
        · cases h
      · cases h
    · split at h
      · rename_i ks vs hx
        unfold sortGo at h
        split at h
        · rename_i ds hds
          split at h
          · rename_i ho
            obtain ⟨o1, o2, o3, o4⟩ := okSort_iff.mp ho
            obtain ⟨w, rfl, r1⟩ := one_inv r
            obtain ⟨a, ob, kws, vws, rfl, hq, rk, rv, d⟩ := dct_ok W r1 hx
            obtain ⟨l, rfl, rfl, rfl, hl⟩ := sits rk hds
            rw [leP_sits fun t z => (hl t z).2] at h
            intro pins s σ us I ru
            obtain ⟨u, rfl, ru1⟩ := vals1 ru
            obtain rfl : u = Value.ref a := ru1
            obtain ⟨dx, ⟨es, ep, hdat, he⟩, hs, hsz, nd⟩ := d
            have hek := esr_keys he
            have er : PySem.W.EachIs (fun v (t : SIt) => ∃ as, Reads s.heap v t.d as) (es.toList.map (·.key)) l := each_reads I W.sub hl hek
            refine sorted_dict (I.ok.hd hc) hs (dO_at I hq) dx hdat (by rw [← Array.length_toList, esr_len he]; exact hsz) (each_sits hek) er o1 o2 (by rw [List.length_map] at o3; exact o3) (fun b z => by have h30 := o4 b.d (List.mem_map.mpr ⟨b, z, rfl⟩); omega) fun h' tk D out hk hD ho2 hat => ?_
            have hlp : ∀ t ∈ l.mergeSort (PySem.W.dataLe false SIt.d), RelP X.K F ρ st.nxt t.p t.w := fun t z => (hl t (List.mem_mergeSort.mp z)).1
            obtain ⟨hw, hq'⟩ := mkL_ok W (rel_sits hlp) h c
            exact ⟨.ref _, upd H D (.lst ((l.mergeSort (PySem.W.dataLe false SIt.d)).map SIt.w)), I.laid (t' := tk) hk hD ⟨hw, out, hat.choose, sits_each ho2, hat.choose_spec⟩, rfl, hq' _ (I.hok.fresh hD)⟩
          · cases h
        · cases h
      · split at h
        · rename_i xs
          unfold sortGo at h
          split at h
          · rename_i ds hds
            split at h
            · rename_i ho
              obtain ⟨o1, o2, o3, o4⟩ := okSort_iff.mp ho
              obtain ⟨w, rfl, r1⟩ := one_inv r
              obtain ⟨a, vs, rfl, hq, r2⟩ := tup_ok W r1
              obtain ⟨l, rfl, rfl, rfl, hl⟩ := sits r2 hds
              rw [leP_sits fun t z => (hl t z).2] at h
              intro pins s σ us I ru
              obtain ⟨u, rfl, ru1⟩ := vals1 ru
              obtain rfl : u = Value.ref a := ru1
              obtain ⟨its, rv, ⟨o, g1, g2, m, g3⟩, hz⟩ := I.tuple hq
              have er : PySem.W.EachIs (fun v (t : SIt) => ∃ as, Reads s.heap v t.d as) its l := each_reads I W.sub hl rv
              refine sorted_tup g1 g2 g3 (by have q := Paired.length rv; rw [List.length_map] at q; rw [List.size_toArray, ← q]; simpa using hz) (by simpa using each_sits rv) (by simpa using er) o1 o2 (by rw [List.length_map] at o3; exact o3) (fun b z => by have h30 := o4 b.d (List.mem_map.mpr ⟨b, z, rfl⟩); omega) fun h' tk D out hk hD ho2 hat => ?_
              have hlp : ∀ t ∈ l.mergeSort (PySem.W.dataLe false SIt.d), RelP X.K F ρ st.nxt t.p t.w := fun t z => (hl t (List.mem_mergeSort.mp z)).1
              obtain ⟨hw, hq'⟩ := mkL_ok W (rel_sits hlp) h c
              exact ⟨.ref _, upd H D (.lst ((l.mergeSort (PySem.W.dataLe false SIt.d)).map SIt.w)), I.laid (t' := tk) hk hD ⟨hw, out, hat.choose, sits_each ho2, hat.choose_spec⟩, rfl, hq' _ (I.hok.fresh hD)⟩
            · cases h
          · cases h
        · cases h
  · cases h

theorem ints_map : ∀ {xs : List PV} {ns : List Int}, intsOf xs = some ns → xs = ns.map PV.int
  | [], _, h => by cases h; rfl
  | x :: xs, ns, h => by
    cases x with
    | int i =>
      have h : (intsOf xs).map (i :: ·) = some ns := h
      cases e : intsOf xs with
      | none => rw [e] at h; cases h
      | some m =>
        rw [e] at h; cases h
        rw [List.map_cons, ← ints_map e]
    | _ => cases h
theorem rel_ints {K : PySem.W.Frag} {F : Hp} {ρ : Nat → Addr} {n : Nat} : ∀ {ns : List Int} {ws : List V}, RelPs K F ρ n (ns.map PV.int) ws → ws = ns.map V.int
  | [], _, r => r.inv0
  | i :: ns, _, r => by
    obtain ⟨w, ws, rfl, r1, r2⟩ := r.inv
    rw [int_ok r1, rel_ints r2]; rfl
theorem sc_sum (hc : X.calm = true) : SndC X (.builtin "sum") bSum := by
  intro F ρ st xs ws v st' H Q W r h c
  unfold bSum at h
  split at h
  · split at h
    · rename_i xs hx
      split at h
      · rename_i ns hn
        cases h
        obtain ⟨w, rfl, r1⟩ := one_inv r
        obtain ⟨a, vs, rfl, hq, r2⟩ := lst_ok W r1 hx
        cases ints_map hn
        cases rel_ints r2
        exact wC_of (cr_sum hc) ⟨a, ns, rfl, .inl (.inl hq), c.here W (rel_int _)⟩
      · cases h
    · cases h
  · cases h
theorem RelPs.erase {K : PySem.W.Frag} {F : Hp} {ρ : Nat → Addr} {n : Nat} {xs : List PV} {vs : List V} (r : RelPs K F ρ n xs vs) (k : Nat) : RelPs K F ρ n (xs.eraseIdx k) (vs.eraseIdx k) := by
  rw [List.eraseIdx_eq_take_drop_succ, List.eraseIdx_eq_take_drop_succ]
  exact (r.take k).append (r.drop (k + 1))
theorem sm_popAt : SndM X "list.pop" mPopAt := by
  intro F ρ st l xs ws v st' H Q W r h c
  unfold mPopAt at h
  split at h
  · rename_i i
    split at h
    · rename_i ys hl
      split at h
      · rename_i k hk
        split at h
        · rename_i y hy
          split at h
          · rename_i hr
            cases h
            have hb := okRng_iff.mp hr
            obtain ⟨w, rfl, r1⟩ := one_inv r
            cases int_ok r1
            obtain ⟨_, vs, e, rc⟩ := W.cell l _ hl
            obtain ⟨w, hw, rw'⟩ := rc.get hy
            refine wM_of (fun pins s σ H x xs v us Q I r1 r2 h => mt_popAt pins s σ H x xs v us Q I r1 r2 h) ⟨_, vs, i, k, w, rfl, rfl, e, by omega, by omega, by rw [← rc.length]; exact hk, hw, ?_⟩
            exact c _ _ _ _ (W.set hl (c := .lst (ys.eraseIdx k)) (lbs_sub (fun x z => List.mem_of_mem_eraseIdx z) (st.wc l _ hl)) ⟨_, rfl, rc.erase k⟩) rw'
          · cases h
        · cases h
      · cases h
    · cases h
  · cases h
theorem sm_insert : SndM X "list.insert" mInsert := by
  intro F ρ st l xs ws v st' H Q W r h c
  unfold mInsert at h
  split at h
  · rename_i i y
    split at h
    · rename_i ys hl
      split at h
      · rename_i hb
        cases h
        simp only [Bool.and_eq_true, decide_eq_true_eq] at hb
        obtain ⟨⟨⟨h1, h2⟩, h3⟩, h4⟩ := hb
        have hb := okRng_iff.mp h3
        obtain ⟨w1, w2, rfl, r1, r2⟩ := two_inv r
        cases int_ok r1
        obtain ⟨_, vs, e, rc⟩ := W.cell l _ hl
        refine wM_of (fun pins s σ H x xs v us Q I r1 r2 h => mt_insert pins s σ H x xs v us Q I r1 r2 h) ⟨_, vs, i, w2, rfl, rfl, e, by rw [← rc.length]; exact h1, h4, by omega, ?_⟩
        have hw : lbs st.nxt ys = true := st.wc l _ hl
        refine c _ _ _ _ (W.set hl (c := .lst (ys.take i.toNat ++ [y] ++ ys.drop i.toNat)) ?_ ⟨_, rfl, ((rc.take i.toNat).append (.cons r2 .nil)).append (rc.drop i.toNat)⟩) rel_non
        show lbs _ _ = true
        rw [lbs_append, lbs_append, lbs_cons, lbs_nil, h2, lbs_sub (fun x z => List.take_subset _ _ z) hw, lbs_sub (fun x z => List.drop_subset _ _ z) hw]; rfl
      · cases h
    · cases h
  · cases h
theorem sm_extend : SndM X "list.extend" mExtend := by
  intro F ρ st l xs ws v st' H Q W r h c
  unfold mExtend at h
  split at h
  · rename_i y
    split at h
    · rename_i ys hl
      split at h
      · rename_i zs hz
        split at h
        · rename_i hb
          cases h
          rw [Bool.and_eq_true, decide_eq_true_eq] at hb
          obtain ⟨w, rfl, r1⟩ := one_inv r
          obtain ⟨b, vs2, rfl, hq, r2⟩ := lst_ok W r1 hz
          obtain ⟨_, vs, e, rc⟩ := W.cell l _ hl
          have hw : lbs st.nxt ys = true := st.wc l _ hl
          refine wM_of (fun pins s σ H x xs v us Q I r1 r2 h => mt_extend pins s σ H x xs v us Q I r1 r2 h) ⟨_, b, vs, vs2, rfl, rfl, e, hq, by rw [← rc.length, ← r2.length]; exact hb.1, ?_⟩
          refine c _ _ _ _ (W.set hl (c := .lst (ys ++ zs)) ?_ ⟨_, rfl, rc.append r2⟩) rel_non
          show lbs _ _ = true
          rw [lbs_append, hw, hb.2]; rfl
        · cases h
      · cases h
    · cases h
  · cases h
end
end DL

/-! DLI: walking over the keys of a dict that nobody changes. -/
namespace DL
open PySem PySem.Spec PyProof.Rows L2

/-- the keys of the dict at a, in their order -/
def ItkO (a : Addr) (ob : Obj) (kws : List V) : It :=
  ⟨fun i H => H a = some (dO a ob) ∧ i < kws.length, fun i H x H' => H' = H ∧ kws[i]? = some x, fun i H => H a = some (dO a ob) ∧ kws.length ≤ i⟩
theorem turn_keysO {P : Program} {w : World} {K : PySem.W.Frag} {tg : Expr} {a : Addr} {ob : Obj} {es : Array DictEntry} {ep : Nat} {kws : List V} (it : Addr) (hod : ob.data = .dict es ep) (hk : Vals kws (es.toList.map (·.key))) : Turn P w K tg (ItkO a ob kws) [it] it (fun i h => h.IsKeyIter it a i es.size ep) where
  mem := by simp
  obj := fun i h st b hb => by
    have e : b = it := by simpa using hb
    subst e
    obtain ⟨oi, e, c, dd⟩ := st
    exact ⟨oi, e, fun v z => by rw [dd] at z; cases z⟩
  keep := fun i h h' st k => st.at fun oi e => k it (by simp) oi e
  item := by
    intro X hP hw hK hc i pins s σ H E I hf st hg
    subst hP hw hK
    obtain ⟨hd, hi⟩ := hg
    obtain ⟨f0, f1, f2, f3, f4, f5⟩ := hf it (by simp)
    have hgd := dO_at I hd
    have hl : kws.length = es.size := by
      have h := Paired.length hk
      rw [List.length_map, Array.length_toList] at h
      exact h
    have hi2 : i < es.size := by omega
    have hen : es[i]? = some es[i] := Array.getElem?_eq_getElem hi2
    obtain ⟨u, hu, ru⟩ := hk.get (List.getElem?_eq_getElem hi)
    rw [List.getElem?_map, Array.getElem?_toList, hen] at hu
    cases hu
    refine next_key_item st hgd hod rfl hen fun h' st' sb => ?_
    have I1 : Inv X pins σ H { s with heap := h' } := I.turned (t' := s.toks) (fun b ob hb e => (sb.2 b hb).trans e) f0 f1 f3 f4 f5
    obtain ⟨oi, e, c, dd⟩ := id st'
    exact ⟨_, rfl, go_of (s := { s with heap := h' }) e c dd (by decide) ⟨kws[i], H, I1, ru, ⟨rfl, List.getElem?_eq_getElem hi⟩, st', fun b hb => (hf b hb).1⟩⟩
  done := by
    intro X hP hw hK hc i pins s σ H E I hf st hg
    subst hP hw hK
    obtain ⟨hd, hi⟩ := hg
    obtain ⟨f0, f1, f2, f3, f4, f5⟩ := hf it (by simp)
    have hgd := dO_at I hd
    have hl : kws.length = es.size := by
      have h := Paired.length hk
      rw [List.length_map, Array.length_toList] at h
      exact h
    exact next_key_end (I.ok.hd hc) st hgd hod rfl (by omega) fun h' eb => ⟨rfl, I.turned (t' := s.toks) (fun b ob hb e => eb b ob hb e) f0 f1 f3 f4 f5⟩
  self := fun A i s Q E st h => by
    refine wpAny_pyIter_slot st.typeIs F.slot_dict_keyiterator_iter (wpAny_call_entry F.slot_dict_keyiterator_iter st.typeIs F.entry_dict_keyiterator_iter ?_ (F.args_dict_keyiterator_iter_1 _))
    show wpAny _ _ (ret (.ref it)) _ _ s
    exact wpAny_pure ⟨_, rfl, "dict_keyiterator", _, st.typeIs, F.slot_dict_keyiterator_next.lookup, h⟩
def iKeysO (td : TE) : TI := fun σ H R => td σ H fun x H1 => ∃ (a : Addr) (ob : Obj) (kws : List V) (es : Array DictEntry) (ep : Nat), x = .ref a ∧ H1 a = some (dO a ob) ∧ ob.ExactDict ∧ (a == sysModules) = false ∧ ob.data = .dict es ep ∧ Vals kws (es.toList.map (·.key)) ∧ R (ItkO a ob kws) H1
theorem pi_keysO {X : Cx} {tg e : Expr} {td : TE} (he : PE X e td) : PI X tg e (iKeysO td) := by
  refine ⟨fun pins s σ H R I h => ?_⟩
  refine thn (he.run pins s σ H _ I h) fun u s1 ⟨x, H1, I1, rx, a, ob, kws, es, ep, ex, hd, hx, hs, hdt, hv, q⟩ => ?_
  subst ex
  obtain rfl : u = Value.ref a := rx
  exact iter_keys hs (dO_at I1 hd) hx hdt (pi_one (tk := s1.toks) I1 _ (turn_keysO _ hdt hv) ⟨_, Heap.get?_push_size _ rfl, rfl, rfl⟩ q)
/-! pairs -/
/-- the pairs of the dict at a, each a new tuple -/
def ItiO (a : Addr) (ob : Obj) (kws vws : List V) : It :=
  ⟨fun i H => H a = some (dO a ob) ∧ i < kws.length, fun i H x H' => ∃ (T : Addr) (k v : V), kws[i]? = some k ∧ vws[i]? = some v ∧ x = .ref T ∧ H T = none ∧ H' = upd H T (.tup [k, v]), fun i H => H a = some (dO a ob) ∧ kws.length ≤ i⟩
theorem esr_vals : ∀ {ks : List PV} {kws vws : List V} {es : List DictEntry}, EsR ks kws vws es → Vals vws (es.map (·.val))
  | [], _, _, _, h => by
    obtain ⟨_, rfl, rfl⟩ := h
    exact .nil
  | k :: ks, _, _, _, h => by
    obtain ⟨a, as, b, bs, e, es, _, rfl, rfl, _, _, h5, h⟩ := h
    exact .cons h5 (esr_vals h)
theorem turn_itemsO {P : Program} {w : World} {K : PySem.W.Frag} {a : Addr} {ob : Obj} {es : Array DictEntry} {ep : Nat} {kws vws : List V} {elts : List Expr} {kk : Nat} {tpos : Pos} (it : Addr) (hx : ob.ExactDict) (hod : ob.data = .dict es ep) (hk : Vals kws (es.toList.map (·.key))) (hv : Vals vws (es.toList.map (·.val))) :
    Turn P w K (.Tuple elts kk tpos) (ItiO a ob kws vws) [it] it (fun i h => ∃ ok ov, IsItemIter h it a i es.size ep ok ov) where
  mem := by simp
  obj := fun i h st b hb => by
    have e : b = it := by simpa using hb
    subst e
    obtain ⟨ok, ov, e⟩ := st
    exact ⟨_, e, fun v z => nomatch z⟩
  keep := fun i h h' st k => let ⟨ok, ov, e⟩ := st; ⟨ok, ov, k it (by simp) _ e⟩
  item := by
    intro X hP hw hK hc i pins s σ H E I hf st hg
    subst hP hw hK
    obtain ⟨hd, hi⟩ := hg
    have hgd := dO_at I hd
    have hl : kws.length = es.size := by
      have h := Paired.length hk
      rw [List.length_map, Array.length_toList] at h
      exact h
    have hl2 : vws.length = es.size := by
      have h := Paired.length hv
      rw [List.length_map, Array.length_toList] at h
      exact h
    have hi2 : i < es.size := by omega
    have hi3 : i < vws.length := by omega
    have hen : es[i]? = some es[i] := Array.getElem?_eq_getElem hi2
    obtain ⟨u, hu, ru⟩ := hk.get (List.getElem?_eq_getElem hi)
    rw [List.getElem?_map, Array.getElem?_toList, hen] at hu
    cases hu
    obtain ⟨u2, hu2, ru2⟩ := hv.get (List.getElem?_eq_getElem hi3)
    rw [List.getElem?_map, Array.getElem?_toList, hen] at hu2
    cases hu2
    obtain ⟨ok, ov, he⟩ := st
    have hlt : it < s.heap.objs.size := Heap.lt_size he
    refine wpAny_pyNext_items_item_raw he ⟨ob, hgd, hx, hod⟩ hi2 fun h' ho hT hz hkp => ?_
    refine ⟨_, rfl, wpAny_letOwnedTupleGo_items (s := { s with heap := h' }) ho fun h'' he' sb => ?_⟩
    have hT2 : h''.get? s.heap.objs.size = some { cls := .type "tuple", data := .seq #[es[i].key, es[i].val] } := (sb.2 _ (Nat.ne_of_gt hlt)).trans hT
    have new : ObjOk X.prog X.w (upd H s.heap.objs.size (.tup [kws[i], vws[i]])) h'' s.heap.objs.size (.tup [kws[i], vws[i]]) :=
      ⟨by show 2 ≤ sizeLine; decide, [es[i].key, es[i].val], .cons ru (.cons ru2 .nil), ⟨_, hT2, rfl, _, rfl⟩⟩
    have I1 : Inv X pins σ (upd H s.heap.objs.size (.tup [kws[i], vws[i]])) { s with heap := h'' } :=
      I.turnedNew (t' := s.toks) (ch := [it]) (fun b ob hb e => (sb.2 b (by simpa using hb)).trans (hkp b ob (by simpa using hb) e)) hf (Nat.le_refl _) new
    refine ⟨.ref s.heap.objs.size, _, I1, rfl, ⟨_, _, _, List.getElem?_eq_getElem hi, List.getElem?_eq_getElem hi3, rfl, I.hok.fresh (Nat.le_refl _), rfl⟩, ⟨es[i].key, es[i].val, he'⟩, fun b hb => ?_⟩
    have e : b = it := by simpa using hb
    rw [e, upd_ne (Nat.ne_of_lt hlt)]
    exact (hf it (by simp)).1
  done := by
    intro X hP hw hK hc i pins s σ H E I hf st hg
    subst hP hw hK
    obtain ⟨hd, hi⟩ := hg
    obtain ⟨f0, f1, f2, f3, f4, f5⟩ := hf it (by simp)
    have hgd := dO_at I hd
    have hl : kws.length = es.size := by
      have h := Paired.length hk
      rw [List.length_map, Array.length_toList] at h
      exact h
    obtain ⟨ok, ov, he⟩ := st
    exact wpAny_pyNext_items_end_raw (I.ok.hd hc) he ⟨ob, hgd, hx, hod⟩ (by omega) fun h' eb => ⟨rfl, I.turned (t' := s.toks) (fun b ob hb e => eb b ob hb e) f0 f1 f3 f4 f5⟩
  self := fun A i s Q E st h => let ⟨_, _, e⟩ := st; PySem.W.kcp_self e h
def iItemsO (td : TE) : TI := fun σ H R => td σ H fun x H1 => ∃ (a : Addr) (ob : Obj) (kws vws : List V) (es : Array DictEntry) (ep : Nat), x = .ref a ∧ H1 a = some (dO a ob) ∧ ob.ExactDict ∧ (a == sysModules) = false ∧ ob.data = .dict es ep ∧ Vals kws (es.toList.map (·.key)) ∧ Vals vws (es.toList.map (·.val)) ∧ R (ItiO a ob kws vws) H1
theorem pi_itemsO {X : Cx} {e : Expr} {td : TE} {apos cpos : Pos} {elts : List Expr} {kk : Nat} {tpos : Pos} (he : PE X e td) (hbase : attributeBase e "items" X.env (eval e X.env) = eval e X.env) (hline : (apos.endLine == cpos.line) = true) :
    PI X (.Tuple elts kk tpos) (.Call (.Attribute e "items" apos) [] [] cpos) (iItemsO td) := by
  refine ⟨fun pins s σ H R I h => ?_⟩
  refine wpAny_Call_method (T := "dict") (id := "dict.items") hbase rfl hline F.plainAttrs_dict F.slot_dict_items F.type_dict_items (thn (he.run pins s σ H _ I h) fun u s1 ⟨x, H1, I1, rx, a, ob, kws, vws, es, ep, ex, hd, hx, hs, hdt, hv, hw, q⟩ => ?_)
  subst ex
  obtain rfl : u = Value.ref a := rx
  have hgd := dO_at I1 hd
  have hraw : s1.heap.DictRaw a es ep := ⟨ob, hgd, hx, hdt⟩
  refine ⟨⟨ob, hgd, hx.1⟩, fun b q => by cases q; exact ⟨ob, hgd, hx.2.1⟩, ?_⟩
  have I2 : Inv X pins σ H1 { s1 with heap := s1.heap.push { cls := .type "dict_items", data := .fields #[.ref a] } } := I1.kept (t' := s1.toks) fun b ob q => Heap.get?_push_of_some _ q
  have hraw2 : (s1.heap.push { cls := .type "dict_items", data := .fields #[.ref a] }).DictRaw a es ep := ⟨ob, Heap.get?_push_of_some _ hgd, hx, hdt⟩
  have fin : wpAny (model X.prog X.w) X.A (pyIter (.ref s1.heap.objs.size)) (PIE X pins σ (.Tuple elts kk tpos) R) X.xe { s1 with heap := s1.heap.push { cls := .type "dict_items", data := .fields #[.ref a] } } := by
    refine wpAny_pyIter_items_raw (d := a) ⟨_, Heap.get?_push_size _ rfl, rfl, rfl⟩ hraw2 (pi_one (tk := s1.toks) I2 _ (turn_itemsO _ hx hdt hv hw) ⟨.none, .none, ?_⟩ q)
    exact Heap.get?_push_size _ rfl
  show wpAny _ _ (callWith cpos (.builtin "dict.items") [.ref a] [] []) _ X.xe s1
  exact method_meetsIn F.slot_dict_items F.entry_dict_items rfl (PySem.evalArgs_none ⟨rfl, ⟨ob, hgd, hx.1⟩, F.args_dict_items_1 _, _, meets_dict_items_raw a hs, ⟨⟨es, ep, hraw⟩, fin⟩⟩)
end DL

/-! DLN: enumerate over a tuple. -/
namespace DL
open PySem PySem.Spec PyProof.Rows L2

section
variable {prog : Program} {w : World} {A : Around} {E : Value → Shared → Prop} {s : Shared}
theorem nextT_item {it t : Addr} {i : Nat} {items : Array Value} {x : Value} {Q : Value → Shared → Prop} (hit : s.heap.IsTupleIter it t i) (ht : s.heap.IsTuple t items) (hx : items[i]? = some x)
    (hQ : ∀ h', h'.IsTupleIter it t (i + 1) → Heap.SameBut it s.heap h' → Q x { s with heap := h' }) : wpAny (model prog w) A (Builtin.SmallTypes.nextOf (.ref it)) Q E s := by
  obtain ⟨oi, hi, ci, di⟩ := id hit
  obtain ⟨ot, hot, _, nt, dt⟩ := ht
  unfold Builtin.SmallTypes.nextOf
  refine wpAny_bind (wpAny_callSpecial?_slot (name := Str.ofString "__next__") hit.typeIs PySem.F.slot_tuple_iterator_next (wpAny_call_entry PySem.F.slot_tuple_iterator_next hit.typeIs PySem.F.entry_tuple_iterator_next ?_ (PySem.F.args_tuple_iterator_next_1 _)))
  show wpAny _ _ (field (.ref it) 0 >>= _) _ _ s
  refine wpAny_bind (wpAny_field hi di (x := .ref t) rfl ?_)
  show wpAny _ _ (if (Value.ref t == Value.none) = true then _ else _) _ _ s
  rw [if_neg (show ¬ ((Value.ref t == Value.none) = true) from Bool.false_ne_true)]
  show wpAny _ _ (field (.ref it) 1 >>= _) _ _ s
  refine wpAny_bind (wpAny_field hi di (x := .int i 0) rfl ?_)
  show wpAny _ _ (seqItems? (.ref t) >>= _) _ _ s
  refine wpAny_bind (wpAny_seqItems hot dt ?_)
  simp only [Int.toNat_natCast, hx]
  refine wpAny_bind (wpAny_setField hi di (by simp) (wpAny_pure ⟨x, rfl, wpAny_pure (hQ _ ?_ (Heap.SameBut.update ..))⟩))
  exact ⟨_, Heap.get?_update_self _ hi (Obj.isFreed_of_fields (Obj.data_mapFields di _)), (Obj.cls_mapFields ..).trans ci, by rw [Obj.data_mapFields di]; simp [rawInt]⟩
theorem nextT_end {it t : Addr} {i : Nat} {items : Array Value} {Q : Value → Shared → Prop} (hh : A.handled = none) (hit : s.heap.IsTupleIter it t i) (ht : s.heap.IsTuple t items) (hx : items[i]? = none)
    (hE : ∀ h' e, Heap.ExtBut it s.heap h' → (∃ o, h'.get? e = some o ∧ o.cls = .type "StopIteration") → E (.ref e) { s with heap := h' }) : wpAny (model prog w) A (Builtin.SmallTypes.nextOf (.ref it)) Q E s := by
  obtain ⟨oi, hi, ci, di⟩ := id hit
  obtain ⟨ot, hot, _, nt, dt⟩ := ht
  unfold Builtin.SmallTypes.nextOf
  refine wpAny_bind (wpAny_callSpecial?_slot (name := Str.ofString "__next__") hit.typeIs PySem.F.slot_tuple_iterator_next (wpAny_call_entry PySem.F.slot_tuple_iterator_next hit.typeIs PySem.F.entry_tuple_iterator_next ?_ (PySem.F.args_tuple_iterator_next_1 _)))
  show wpAny _ _ (field (.ref it) 0 >>= _) _ _ s
  refine wpAny_bind (wpAny_field hi di (x := .ref t) rfl ?_)
  show wpAny _ _ (if (Value.ref t == Value.none) = true then _ else _) _ _ s
  rw [if_neg (show ¬ ((Value.ref t == Value.none) = true) from Bool.false_ne_true)]
  show wpAny _ _ (field (.ref it) 1 >>= _) _ _ s
  refine wpAny_bind (wpAny_field hi di (x := .int i 0) rfl ?_)
  show wpAny _ _ (seqItems? (.ref t) >>= _) _ _ s
  refine wpAny_bind (wpAny_seqItems hot dt ?_)
  simp only [Int.toNat_natCast, hx]
  refine wpAny_bind (wpAny_rule (wpAny_bind (wpAny_setField hi di (by simp) ?_)))
  show wpAny _ _ (newExc (.type "StopIteration") [] >>= _) _ _ _
  refine wpAny_bind ?_
  simp only [newExc, newTuple]
  refine wpAny_bind (wpAny_newObj_type ?_ (by size_fits))
  refine wpAny_bind (m := firstArgMember _ _) (wpAny_of_eq (a := Value.none) (by first | rfl | (simp only [firstArgMember]; rfl)) ?_)
  refine wpAny_newObj_type ?_ (by size_fits)
  simp only [raiseNew]
  refine wpAny_bind (wpAny_handled ?_)
  first | rw [show A.in1.handled = none from hh] | rw [hh]
  refine wpAny_bind (wpAny_pure (wpAny_throw ?_))
  exact hE _ _ (((Heap.SameBut.update ..).extBut.push _).push _) ⟨_, Heap.get?_push_size _ rfl, rfl⟩
end
theorem drawsT {prog : Program} {w : World} {A : Around} (hh : A.handled = none) (it t : Addr) (hne : t ≠ it) (items : Array Value) :
    Draws prog w A it [it, t] items.size (fun i v => items[i]? = some v) (fun i h => h.IsTupleIter it t i ∧ h.IsTuple t items) where
  live := fun _ _ st => let ⟨o, ho, _⟩ := st.1; ⟨o, ho⟩
  frame := fun _ _ _ st hk => by
    obtain ⟨⟨o, ho, r⟩, o2, ho2, r2⟩ := st
    exact ⟨⟨o, hk it (by simp) o ho, r⟩, o2, hk t (by simp) o2 ho2, r2⟩
  item := fun i s Q E hi st hQ => by
    refine nextT_item st.1 st.2 (x := items[i]) (by simp [hi]) fun h' hit' hs' => ?_
    obtain ⟨_, o2, ho2, r2⟩ := st
    exact hQ _ h' s.toks (by simp [hi]) ⟨hit', o2, hs'.extBut t o2 hne ho2, r2⟩ hs'
  done := fun s Q E st hE => nextT_end hh st.1 st.2 (by simp) hE
/-! making one -/
theorem enum_newT (l : Addr) (items : Array Value) (n : Nat) (dct : Option Addr) (sl : Array (Option Value)) :
    Meets (Builtin.«enumerate.__new__» ⟨[.type "enumerate", .ref l], []⟩) (fun _ R s => s.heap.get? l = some { cls := .type "tuple", dict := dct, data := .seq items n, slots := sl } ∧
      R (.ok (.ret (.ref (s.heap.push { cls := .type "tuple_iterator", data := .fields #[.ref l, .int 0 0] }).objs.size)))
        { s with heap := (s.heap.push { cls := .type "tuple_iterator", data := .fields #[.ref l, .int 0 0] }).push { cls := .type "enumerate", data := .fields #[.none, .bool false, .ref s.heap.objs.size, rawInt 0, .none, .none] } }) :=
  .of_wp fun prog w A R s h => by
    obtain ⟨hp, g, d, tk, os⟩ := s; obtain ⟨hl, h⟩ := h
    have hsub := sub_enumerate
    have hT : Heap.IsTuple (Shared.heap ⟨hp, g, d, tk, os⟩) l items := ⟨_, hl, rfl, n, rfl⟩
    wp_walk using wpAny_loadPart' hl
    refine wpAny_stack_any fun st => wpAny_pure ?_
    split
    · rename_i c _ _ _ _ _
      cases (c == Value.type "enumerate")
      · wp_walk using wpAny_loadPart' hl, wpAny_pyIter_tuple hT
        exact ⟨_, rfl, h⟩
      · wp_walk using wpAny_loadPart' hl, wpAny_pyIter_tuple hT
        exact ⟨_, rfl, h⟩
    · wp_walk using wpAny_loadPart' hl, wpAny_pyIter_tuple hT
      exact ⟨_, rfl, h⟩
section
variable {prog : Program} {w : World} {A : Around} {E : Value → Shared → Prop} {s : Shared}
theorem call_enumT {l : Addr} {items : Array Value} {Q : Value → Shared → Prop} (hL : s.heap.IsTuple l items)
    (h : ∀ h', IsEnum h' (s.heap.objs.size + 1) s.heap.objs.size 0 .none → h'.IsTupleIter s.heap.objs.size l 0 → h'.objs.size = s.heap.objs.size + 2 →
      (∀ b o, s.heap.get? b = some o → h'.get? b = some o) → Q (.ref (s.heap.objs.size + 1)) { s with heap := h' }) :
    wpAny (model prog w) A (call (.type "enumerate") [.ref l]) Q E s := by
  obtain ⟨⟨c, dct, dt, sl⟩, hl, hc, n, hd⟩ := hL
  replace hc : c = .type "tuple" := hc
  replace hd : dt = .seq items n := hd
  subst hc hd
  refine callType_new PySem.F.called_enumerate (by decide) (PySem.F.typeCall_enumerate_1 _) (PySem.F.newCall_enumerate_1 _) (fun obj => PySem.F.args_object_init_2 obj _) PySem.F.entry_enumerate_new (enum_newT l items n dct sl) ⟨hl, ?_⟩
  have hz : (s.heap.push { cls := .type "tuple_iterator", data := .fields #[.ref l, .int 0 0] }).objs.size = s.heap.objs.size + 1 := Heap.size_push ..
  show _ ∧ _
  rw [hz]
  have he : IsEnum ((s.heap.push { cls := .type "tuple_iterator", data := .fields #[.ref l, .int 0 0] }).push { cls := .type "enumerate", data := .fields #[.none, .bool false, .ref s.heap.objs.size, rawInt 0, .none, .none] }) (s.heap.objs.size + 1) s.heap.objs.size 0 .none := by
    have q := Heap.get?_push_size (s.heap.push { cls := .type "tuple_iterator", data := .fields #[.ref l, .int 0 0] }) (o := { cls := .type "enumerate", data := .fields #[.none, .bool false, .ref s.heap.objs.size, rawInt 0, .none, .none] }) rfl
    rw [hz] at q; exact q
  refine ⟨⟨_, he, rfl⟩, h _ he ⟨_, Heap.get?_push_of_some _ (Heap.get?_push_size _ rfl), rfl, rfl⟩ (by rw [Heap.size_push, hz]) fun b o x => Heap.get?_push_of_some _ (Heap.get?_push_of_some _ x)⟩
end
/-- the tuple at a, its items in new pairs -/
def IteT (K : PySem.W.Frag) (a : Addr) : It :=
  ⟨fun i H => ∃ (xs : List V) (x : V), SqT K H a xs ∧ xs[i]? = some x, fun i H v H' => ∃ T x, v = .ref T ∧ H T = none ∧ H' = upd H T (.tup [.int (i : Nat), x]) ∧ ∀ xs, SqT K H a xs → xs[i]? = some x, fun i H => ∃ xs : List V, SqT K H a xs ∧ xs.length ≤ i⟩
theorem turn_enumT {P : Program} {w : World} {K : PySem.W.Frag} {elts : List Expr} {kk : Nat} {tpos : Pos} (a e it : Addr) :
    Turn P w K (.Tuple elts kk tpos) (IteT K a) [e, it] e (fun i h => (∃ old, IsEnum h e it ((i : Nat) : Int) old) ∧ h.IsTupleIter it a i ∧ e ≠ it ∧ a ≠ it ∧ a ≠ e) where
  mem := by simp
  obj := fun i h st b hb => by
    obtain ⟨⟨old, he⟩, ⟨o, ho, hc, hd⟩, _⟩ := st
    have e' : b = e ∨ b = it := by simpa using hb
    rcases e' with z | z
    · rw [z]; exact ⟨_, he, fun v q => nomatch q⟩
    · rw [z]; exact ⟨o, ho, fun v q => by rw [hd] at q; cases q⟩
  keep := fun i h h' st k => by
    obtain ⟨⟨old, he⟩, ⟨o, ho, r⟩, hne⟩ := st
    exact ⟨⟨old, k e (by simp) _ he⟩, ⟨o, k it (by simp) o ho, r⟩, hne⟩
  item := by
    intro X hP hw hK hc i pins s σ H E I hf st hg
    subst hP hw hK
    obtain ⟨⟨old, he⟩, hit, hne, hai, hae⟩ := st
    obtain ⟨xs, x, hq, hx⟩ := hg
    obtain ⟨its, rv, p, hz⟩ := I.tuple hq
    obtain ⟨u, hu, ru⟩ := rv.get hx
    have hel : e < s.heap.objs.size := Heap.lt_size he
    have hil : it < s.heap.objs.size := by obtain ⟨_, q, _⟩ := hit; exact Heap.lt_size q
    have hlen := rv.length
    have hi : i < its.toArray.size := by rw [List.size_toArray, ← hlen]; exact (List.getElem?_eq_some_iff.mp hx).1
    refine wpAny_pyNext_enum_itemD (drawsT (prog := X.prog) (w := X.w) (A := X.A.in1) (show X.A.in1.handled = none from I.ok.hd hc) it a hai its.toArray) he ⟨hit, (show s.heap.IsTuple a its.toArray from p)⟩ hi hne (by simp [hne, Ne.symm hae]) fun y h' tk hP ho hS hT hsz hk => ?_
    have hy : y = u := by
      have z : its.toArray[i]? = some y := hP
      rw [List.getElem?_toArray, hu] at z
      exact (Option.some.inj z).symm
    subst hy
    refine ⟨_, rfl, wpAny_letOwnedTupleGo_enum (s := { s with heap := h', toks := tk + 1 }) ho fun h'' he' sb => ?_⟩
    have hT2 : h''.get? s.heap.objs.size = some { cls := .type "tuple", data := .seq #[.int i tk, y] } := (sb.2 _ (Nat.ne_of_gt hel)).trans hT
    have new : ObjOk X.prog X.w (upd H s.heap.objs.size (.tup [.int (i : Nat), x])) h'' s.heap.objs.size (.tup [.int (i : Nat), x]) :=
      ⟨by show 2 ≤ sizeLine; decide, [.int i tk, y], .cons ⟨_, rfl⟩ (.cons ru .nil), ⟨_, hT2, rfl, _, rfl⟩⟩
    have I1 : Inv X pins σ (upd H s.heap.objs.size (.tup [.int (i : Nat), x])) { s with heap := h'', toks := tk + 1 } :=
      I.turnedNew (ch := [e, it]) (fun b ob hb q => (sb.2 b (fun z => hb (by simp [z]))).trans (hk b ob (fun z => hb (by simp [z])) (fun z => hb (by simp [z])) q)) hf (Nat.le_refl _) new
    refine ⟨.ref s.heap.objs.size, _, I1, rfl, ⟨_, x, rfl, I.hok.fresh (Nat.le_refl _), rfl, fun ys hy => by rw [I.tuple_inj hy hq]; exact hx⟩, ⟨⟨y, ?_⟩, ?_, hne, hai, hae⟩, fun b hb => ?_⟩
    · have e1 : ((i + 1 : Nat) : Int) = (i : Int) + 1 := by omega
      rw [e1]; exact he'
    · obtain ⟨⟨o, q1, q2⟩, _⟩ := hS
      exact ⟨o, (sb.2 it (Ne.symm hne)).trans q1, q2⟩
    · have hb' : b < s.heap.objs.size := by
        have e' : b = e ∨ b = it := by simpa using hb
        rcases e' with z | z
        · rw [z]; exact hel
        · rw [z]; exact hil
      rw [upd_ne (Nat.ne_of_lt hb')]
      exact (hf b hb).1
  done := by
    intro X hP hw hK hc i pins s σ H E I hf st hg
    subst hP hw hK
    obtain ⟨⟨old, he⟩, hit, hne, hai, hae⟩ := st
    obtain ⟨xs, hq, hx⟩ := hg
    obtain ⟨its, rv, p, hz⟩ := I.tuple hq
    obtain ⟨f0, f1, f2, f3, f4, f5⟩ := hf it (by simp)
    have hl := rv.length
    have hT : s.TypeIs (.ref e) "enumerate" := ⟨_, he, rfl⟩
    unfold pyNext
    refine wpAny_bind (wpAny_attempt (wpAny_callSpecial?_slot (name := Str.ofString "__next__") hT PySem.F.slot_enumerate_next (wpAny_call_entry PySem.F.slot_enumerate_next hT PySem.F.entry_enumerate_next ?_ (PySem.F.args_enumerate_next_1 _))))
    show wpAny _ _ (field (.ref e) 2 >>= _) _ _ _
    refine wpAny_bind (wpAny_field he rfl (x := .ref it) rfl ?_)
    refine wpAny_bind (nextT_end (I.ok.hd hc) hit (show s.heap.IsTuple a its.toArray from p) (by simp; omega) fun h' x eb hx' => ?_)
    obtain ⟨o, ho, hc'⟩ := hx'
    refine wpAny_bind (wpAny_isInstance (T := "StopIteration") (b := true) ⟨o, ho, hc'⟩ isSubtype_stop ?_)
    exact wpAny_pure ⟨rfl, I.turned (t' := s.toks) (fun b o hb q => eb b o hb q) f0 f1 f3 f4 f5⟩
  self := fun A i s Q E st h => let ⟨⟨_, he⟩, _⟩ := st; wpAny_pyIter_enum he h
def iEnumT (K : PySem.W.Frag) (ta : TA) : TI := fun σ H R => ta σ H fun vs H1 => ∃ a xs, vs = [.ref a] ∧ SqT K H1 a xs ∧ R (IteT K a) H1
theorem pi_enumT {X : Cx} {e : Expr} {ta : TA} {p pos tpos : Pos} {elts : List Expr} {kk : Nat} (hg : Gl X "enumerate") (hm : X.mg "enumerate" = none) (ha : PA X [e] ta) (hs : starEach [e] X.env = [(false, eval e X.env)] := by rfl) :
    PI X (.Tuple elts kk tpos) (.Call (.Name "enumerate" p) [e] [] pos) (iEnumT X.K ta) := by
  refine ⟨fun pins s σ H R I h => ?_⟩
  refine Call_ (ld_blt I hg hm boot_enumerate (PyProof.Rows.callWith_type1 (thn (ha.run pos pins s σ H _ I h) fun us s1 ⟨vs, H1, I1, r1, q1⟩ => ?_) hs rfl))
  obtain ⟨a, xs, ex, hq, q⟩ := q1
  subst ex
  obtain ⟨u, rfl, ru⟩ := vals1 r1
  obtain rfl : u = Value.ref a := ru
  obtain ⟨its, rv, p', hz⟩ := I1.tuple hq
  have hal : a < s1.heap.objs.size := by obtain ⟨o, z, _⟩ := p'; exact Heap.lt_size z
  refine call_enumT (items := its.toArray) (show s1.heap.IsTuple a its.toArray from p') fun h' he hit hsz hk => wpAny_pyIter_enum he ?_
  have I2 : Inv X pins σ H1 { s1 with heap := h' } := I1.kept (t' := s1.toks) hk
  refine ⟨s1.heap.objs.size + 1, [s1.heap.objs.size + 1, s1.heap.objs.size], _, _, H1, rfl, I2, turn_enumT a (s1.heap.objs.size + 1) s1.heap.objs.size, ⟨⟨.none, he⟩, hit, Nat.succ_ne_self _, Nat.ne_of_lt hal, Nat.ne_of_lt (Nat.lt_succ_of_lt hal)⟩, fun b hb => ?_, q⟩
  have e' : b = s1.heap.objs.size + 1 ∨ b = s1.heap.objs.size := by simpa using hb
  have hle : s1.heap.objs.size ≤ b := by
    rcases e' with z | z
    · rw [z]; exact Nat.le_add_right _ _
    · rw [z]; exact Nat.le_refl _
  exact I1.fpOk hle (I1.hok.fresh hle)
end DL

/-! DLS: t[::-1], chains of comparisons, a list as a test, any. -/
namespace DL
open PySem PySem.Spec PyProof.Rows L2

section
variable {prog : Program} {w : World} {A : Around} {E : Value → Shared → Prop} {s : Shared}
theorem rv_sl {sl : Addr} {tk : Tok} {n : Nat} {Q : Int × Int × Nat → Shared → Prop} (hs : s.heap.IsSliceOf sl .none .none (.int (-1) tk)) (h : Q ((n : Int) - 1, -1, n) s) : wpAny (model prog w) A (Builtin.Slice.sliceApplied (.ref sl) (pure (n : Int))) Q E s := by
  obtain ⟨os, hos, hcs, hds⟩ := id hs
  unfold Builtin.Slice.sliceApplied Builtin.Slice.sliceFields
  refine wpAny_bind (wpAny_bind (wpAny_field hos hds (x := .none) rfl (wpAny_bind (wpAny_field hos hds (x := .none) rfl (wpAny_bind (wpAny_field hos hds (x := .int (-1) tk) rfl (wpAny_pure ?_)))))))
  refine wpAny_bind (HT.slicePart_ (IsPart.int (-1) tk) ?_)
  show wpAny _ _ (if ((-1 : Int) == 0) = true then _ else _) _ _ s
  rw [if_neg (by decide)]
  refine wpAny_bind (HT.slicePart_ IsPart.none (wpAny_bind (HT.slicePart_ IsPart.none (wpAny_bind (wpAny_pure ?_)))))
  show wpAny _ _ (pure ((n : Int) - 1, (-1 : Int), Builtin.Slice.slicePlaces ((n : Int) - 1) (-1) (-1))) _ _ s
  have e : Builtin.Slice.slicePlaces ((n : Int) - 1) (-1) (-1) = n := by
    unfold Builtin.Slice.slicePlaces
    rw [if_neg (by decide)]
    by_cases q : ((n : Int) - 1 > -1)
    · rw [if_pos q]
      have : ((n : Int) - 1 - (-1) - 1) / (- (-1)) + 1 = n := by
        rw [show (- (-1 : Int)) = 1 from rfl, Int.ediv_one]; omega
      rw [this]; rfl
    · rw [if_neg q]
      have : n = 0 := by omega
      rw [this]; rfl
  rw [e]
  exact wpAny_pure h
theorem fm_map {α β : Type} {f : α → Option β} {g : α → β} : ∀ {l : List α}, (∀ x ∈ l, f x = some (g x)) → l.filterMap f = l.map g
  | [], _ => rfl
  | x :: l, h => by
    rw [List.filterMap_cons_some (h x List.mem_cons_self), List.map_cons, fm_map fun y hy => h y (List.mem_cons_of_mem _ hy)]
theorem rv_pick (xs : List Value) : ((List.range xs.length).filterMap fun (m : Nat) => xs.toArray[((xs.length : Int) - 1 + (m : Int) * (-1)).toNat]?) = xs.reverse := by
  apply List.ext_getElem?
  intro j
  have h1 : ((List.range xs.length).filterMap fun (m : Nat) => xs.toArray[((xs.length : Int) - 1 + (m : Int) * (-1)).toNat]?) = (List.range xs.length).map fun m => (xs.reverse[m]?).getD .none := by
    apply fm_map
    intro m hm
    have hm := List.mem_range.mp hm
    have e : ((xs.length : Int) - 1 + (m : Int) * (-1)).toNat = xs.length - 1 - m := by omega
    rw [e, List.getElem?_toArray]
    show _ = some ((xs.reverse[m]?).getD .none)
    rw [List.getElem?_reverse hm, List.getElem?_eq_getElem (by omega)]
    rfl
  rw [h1, List.getElem?_map]
  by_cases q : j < xs.length
  · rw [List.getElem?_range q]
    show some ((xs.reverse[j]?).getD .none) = _
    rw [List.getElem?_eq_getElem (by rw [List.length_reverse]; exact q)]; rfl
  · rw [List.getElem?_eq_none (by rw [List.length_range]; omega), List.getElem?_eq_none (by rw [List.length_reverse]; omega)]; rfl
theorem rv_get {t sl : Addr} {items : List Value} {tk : Tok} {Q : Value → Shared → Prop} (ht : IsTup s.heap t items.toArray) (hs : s.heap.IsSliceOf sl .none .none (.int (-1) tk))
    (h : Q (.ref s.heap.objs.size) { s with heap := s.heap.push { cls := .type "tuple", data := .seq items.reverse.toArray } }) (hsz : items.length ≤ sizeLine) : wpAny (model prog w) A (getItem (.ref t) (.ref sl)) Q E s := by
  have htake : sizeOk (.seq items.reverse.toArray) := by
    show items.reverse.toArray.size ≤ sizeLine
    rw [List.size_toArray, List.length_reverse]; exact hsz
  obtain ⟨os, hos, hcs, hds⟩ := id hs
  have hTs : s.TypeIs (.ref sl) "slice" := ⟨os, hos, hcs⟩
  have hTt : s.TypeIs (.ref t) "tuple" := ht.typeIs
  unfold getItem
  try with_reducible refine wpAny_holding ?_
  first | refine wpAny_bind (wpAny_pure ?_) | skip
  refine wpAny_bind (wpAny_sequenceKey hTt (by decide) ?_)
  refine wpAny_bind (wpAny_callSpecial?_slot (name := Str.ofString "__getitem__") hTt PyProof.Rows.slot_tuple_getitem (wpAny_call_entry PyProof.Rows.slot_tuple_getitem hTt entry_tuple_getitem ?_ (args_tuple_getitem _ _)))
  show wpAny _ _ (Builtin.Tuple.tupleItemsOf (.ref t) >>= _) _ _ s
  refine wpAny_bind (tupleItemsOf_ ht ?_)
  refine wpAny_bind (wpAny_typeOf hTs ?_)
  rw [if_pos (by decide)]
  have e1 : items.toArray.size = items.length := by simp
  rw [e1]
  refine wpAny_bind (rv_sl (n := items.length) hs ?_)
  have hno : ¬ ((((items.length : Int) - 1) == 0 && (-1 : Int) == 1 && items.length == items.length) = true) := by
    rw [show ((-1 : Int) == 1) = false from rfl, Bool.and_false, Bool.false_and]
    decide
  show wpAny _ _ (if (((items.length : Int) - 1) == 0 && (-1 : Int) == 1 && items.length == items.length) = true then _ else _) _ _ s
  rw [if_neg hno, rv_pick]
  first
    | exact wpAny_bind (m := Builtin.Tuple.tupleExact _) (wpAny_newObj_type (wpAny_pure ⟨_, rfl, wpAny_pure h⟩) htake)
    | exact wpAny_bind (m := Builtin.Tuple.tupleExact _) (wpAny_newObj_type (wpAny_bind (wpAny_pure (wpAny_pure ⟨_, rfl, wpAny_pure h⟩))) htake)
    | exact wpAny_bind (wpAny_bind (m := Builtin.Tuple.tupleExact _) (wpAny_newObj_type (wpAny_pure (wpAny_pure ⟨_, rfl, wpAny_pure h⟩)) htake))
    | exact wpAny_bind (wpAny_bind (m := Builtin.Tuple.tupleExact _) (wpAny_newObj_type (wpAny_pure ⟨_, rfl, wpAny_pure h⟩) htake))
end
section
variable {X : Cx} {pos : Pos} {a b c e : Expr} {A B C : DE}
theorem vals_reverse : ∀ {xs : List V} {us : List Value}, Vals xs us → Vals xs.reverse us.reverse := by
  intro xs us h
  induction h with
  | nil => exact .nil
  | cons h t ih =>
    rw [List.reverse_cons, List.reverse_cons]
    have app : ∀ {xs ys : List V} {us vs : List Value}, Vals xs us → Vals ys vs → Vals (xs ++ ys) (us ++ vs) := by
      intro xs ys us vs h q
      induction h with
      | nil => exact q
      | cons h _ ih => exact .cons h ih
    exact app ih (.cons h .nil)
theorem snd_rvT {k : Nat} {g1 g2 g3 : Pos} (ha : SndE X a A) : SndE X (.Subscript a (.Slice none none (some (.UnaryOp .USub (.Constant (.int 1) k g1) g2)) g3) pos) (dRvT A) := by
  intro F ρ env st v st' σ H Q W E h cc
  obtain ⟨x, st1, h1, h⟩ := mb_eq h
  split at h
  · rename_i xs
    cases h
    intro pins s I
    have q1 := ha F ρ env st (.tup xs) st' σ H (fun w1 H1 => ∃ F1 ρ1, Pst X.K F ρ st H F1 ρ1 st' H1 ∧ RelP X.K F1 ρ1 st'.nxt (.tup xs) w1) W E h1 fun F1 ρ1 w1 H1 p r => ⟨F1, ρ1, p, r⟩
    refine Subscript_ (thn (q1 pins s I) fun v s1 ⟨w1, H1, I1, rx, F1, ρ1, p, r⟩ => ?_)
    obtain ⟨ad, vs, rfl, hq, r2⟩ := tup_ok p.wld r
    obtain rfl : v = Value.ref ad := rx
    refine wpAny_Slice ?_
    rw [evalPart_none]
    refine wpAny_pure ?_
    refine wpAny_pure ?_
    rw [evalPart_some]
    have hu : SndE X (.UnaryOp .USub (.Constant (.int 1) k g1) g2) (dUn opNeg (dCst (.int 1))) := snd_un su_neg snd_int
    have q2 := hu F1 ρ1 env st' (.int (-1)) st' σ H1 (fun w2 H2 => w2 = .int (-1) ∧ H2 = H1 ∨ ∃ F2 ρ2, Pst X.K F1 ρ1 st' H1 F2 ρ2 st' H2 ∧ RelP X.K F2 ρ2 st'.nxt (.int (-1)) w2) p.wld (E.step p) rfl fun F2 ρ2 w2 H2 p2 r2 => .inr ⟨F2, ρ2, p2, r2⟩
    refine thn (q2 pins s1 I1) fun u s2 ⟨w2, H2, I2, ru, hz⟩ => ?_
    obtain ⟨F2, ρ2, p2, e2⟩ : ∃ F2 ρ2, Pst X.K F1 ρ1 st' H1 F2 ρ2 st' H2 ∧ w2 = .int (-1) := by
      rcases hz with ⟨z1, z2⟩ | ⟨F2, ρ2, z1, z2⟩
      · subst z2; exact ⟨F1, ρ1, Pst.refl p.wld, z1⟩
      · exact ⟨F2, ρ2, z1, int_ok z2⟩
    subst e2
    obtain ⟨tk, rfl⟩ := ru
    have P := p.trans p2
    have r3 : RelPs X.K F2 ρ2 st'.nxt xs vs := r2.step p2
    have hq2 : SqT X.K H2 ad vs := by
      have z : RelP X.K F2 ρ2 st'.nxt (.tup xs) (.ref ad) := r.step p2
      obtain ⟨ad', vs', e', hq', r'⟩ := tup_ok P.wld z
      cases e'
      have e5 : vs = vs' := by
        obtain ⟨its, rv, ⟨o, g1, _, m, g3⟩, _⟩ := I1.tuple hq
        have z : RelP X.K F1 ρ1 st'.nxt (.tup xs) (.ref ad) := r
        rw [RelP] at z
        obtain ⟨a2, vs2, e2, t2, r2'⟩ := z
        cases e2
        have k1 : vs = vs2 := I1.tuple_inj hq (p.wld.sub.sqT t2)
        have k2 : vs' = vs2 := I2.tuple_inj hq' (P.wld.sub.sqT (p2.ex.sqT t2))
        rw [k1, k2]
      rw [e5]; exact hq'
    have I4 : Inv X pins σ H2 { s2 with heap := s2.heap.push { cls := .type "slice", data := .fields #[.none, .none, .int (-1) tk] } } := I2.kept (t' := s2.toks) fun b ob q => Heap.get?_push_of_some _ q
    obtain ⟨its, rv, p', hz'⟩ := I4.tuple hq2
    have hl := rv.length
    have c2 := Ct.of P cc
    have hg : wpAny (model X.prog X.w) X.A (getItem (.ref ad) (.ref s2.heap.objs.size)) (EP X pins σ Q) X.xe { s2 with heap := s2.heap.push { cls := .type "slice", data := .fields #[.none, .none, .int (-1) tk] } } := by
      refine rv_get p' (Heap.IsSliceOf.new ..) ?_ (by rw [← hl]; exact hz')
      refine ⟨.ref _, _, I4.laid (t' := s2.toks) (o := .tup vs.reverse) (fun b ob q => Heap.get?_push_of_some _ q) (Nat.le_refl _) ?_, rfl, tupV_ok P.wld r3.reverse c2 (I4.hok.fresh (Nat.le_refl _))⟩
      exact ⟨by rw [List.length_reverse]; exact hz', _, vals_reverse rv, IsTup.new _ _⟩
    show wpAny (model X.prog X.w) X.A (subscriptTail a (.Slice none none (some (.UnaryOp .USub (.Constant (.int 1) k g1) g2)) g3) (.ref ad) (.ref s2.heap.objs.size)) (EP X pins σ Q) X.xe { s2 with heap := s2.heap.push { cls := .type "slice", data := .fields #[.none, .none, .int (-1) tk] } }
    exact tail_any (ops := [.ref ad, .ref s2.heap.objs.size]) p'.typeIs PyProof.Rows.slot_tuple_getitem.lookup hg (by with_unfolding_all rfl)
  · cases h
/-! a < b < c -/
theorem chain_go {op op' : CmpOp} {f g : PV → PV → M PV} (ho : SndO X (compareOp op) f) (ho' : SndO X (compareOp op') g) (ha : SndE X a A) (hb : SndE X b B) (hc : SndE X c C) {F : Hp} {ρ : Nat → Addr} {env : Env} {st : Sto} {v : PV} {st' : Sto} {σ : L2.St} {H : Hp} {Q : VK}
    (W : Wld X.K F ρ st H) (E : ERel X.K F ρ st.nxt env σ) (h : dChain f g A B C env st = some (v, st')) (k : Ct X.K F ρ st H v st' Q) :
    tChain (wR X (compareOp op)) (wR X (compareOp op')) (wE X a) (wE X b) (wE X c) σ H Q := by
  obtain ⟨x, st1, h1, h⟩ := mb_eq h
  obtain ⟨y, st2, h2, h⟩ := mb_eq h
  obtain ⟨r, st3, h3, h⟩ := mb_eq h
  obtain ⟨kk, st4, h4, h⟩ := mb_eq h
  obtain ⟨rfl, rfl⟩ := asB_eq h4
  refine ha F ρ env st x st1 σ H _ W E h1 fun F1 ρ1 w1 H1 p1 r1 => ?_
  refine hb F1 ρ1 env st1 y st2 σ H1 _ p1.wld (E.step p1) h2 fun F2 ρ2 w2 H2 p2 r2 => ?_
  refine ho F2 ρ2 st2 x y w1 w2 _ _ H2 _ p2.wld (r1.step p2) r2 h3 fun F3 ρ3 w3 H3 p3 r3 => ⟨kk, bl_ok r3, ?_⟩
  have P := (p1.trans p2).trans p3
  cases kk with
  | false =>
    cases h
    rw [if_neg (by decide)]
    exact (Ct.of P k).here p3.wld (rel_bl _)
  | true =>
    rw [if_pos rfl]
    obtain ⟨z, st5, h5, h⟩ := mb_eq h
    refine hc F3 ρ3 env _ z st5 σ H3 _ p3.wld (E.step P) h5 fun F4 ρ4 w4 H4 p4 r4 => ?_
    exact ho' F4 ρ4 st5 y z w2 w4 v st' H4 Q p4.wld ((r2.step p3).step p4) r4 h (Ct.of (P.trans p4) k)
theorem snd_chain {op op' : CmpOp} {f g : PV → PV → M PV} (ho : SndO X (compareOp op) f) (ho' : SndO X (compareOp op') g) (ha : SndE X a A) (hb : SndE X b B) (hc : SndE X c C) (hm : lastMarks [op, op'] [b, c] = false) : SndE X (.Compare a [op, op'] [b, c] pos) (dChain f g A B C) := by
  intro F ρ env st v st' σ H Q W E h k
  exact wE_of (pe_chain opr_w opr_w pe_w pe_w pe_w hm) (chain_go ho ho' ha hb hc W E h k)
theorem tst_chain {op op' : CmpOp} {f g : PV → PV → M PV} (ho : SndO X (compareOp op) f) (ho' : SndO X (compareOp op') g) (ha : SndE X a A) (hb : SndE X b B) (hc : SndE X c C) (hm : lastMarks [op, op'] [b, c] = false) : SndT X (.Compare a [op, op'] [b, c] pos) (tVal (dChain f g A B C)) := by
  intro F ρ env st v st' σ H Q W E h k
  have h0 : mb (dChain f g A B C env st) asB = some (v, st') := h
  obtain ⟨z, st3, h5, h3⟩ := mb_eq h0
  obtain ⟨rfl, rfl⟩ := asB_eq h3
  refine wT_of (pt_chain opr_w opr_w pe_w pe_w pe_w hm) ?_
  exact chain_go ho ho' ha hb hc W E h5 fun F3 ρ3 w H3 p3 r3 => ⟨_, bl_ok r3, k F3 ρ3 H3 p3⟩
/-! a list as a test -/
theorem tst_tru (he : ∀ whole, isTrue e X.env whole = (do let v ← whole; standAt e.pos; holding [v] (truthy v))) {D : DE} (h : SndE X e D) : SndT X e (tTru D) := by
  intro F ρ env st v st' σ H Q W E h0 k
  obtain ⟨z, st3, h0, h3⟩ := mb_eq h0
  refine wT_of (pt_truth pe_w he) ?_
  refine h F ρ env st z st3 σ H _ W E h0 fun F3 ρ3 w H3 p3 r3 => ?_
  unfold asT at h3
  split at h3
  · cases h3
    rw [bl_ok r3]
    exact ⟨_, rfl, k F3 ρ3 H3 p3⟩
  · split at h3
    · rename_i xs hx
      cases h3
      obtain ⟨p, vs, rfl, hq, r⟩ := lst_ok p3.wld r3 hx
      refine ⟨_, .inl ⟨vs, .inl (.inl hq), ?_⟩, k F3 ρ3 H3 p3⟩
      have hl := r.length
      cases xs with
      | nil =>
        cases vs with
        | nil => rfl
        | cons _ _ => cases hl
      | cons _ _ =>
        cases vs with
        | nil => cases hl
        | cons _ _ => rfl
    · cases h3
theorem snd_glob {x : Str} {v : PV} {w : V} {u : Value} (hg : Gl X x) (hm : X.mg x = some u) (ru : RelV w u) (r : ∀ F ρ n, RelP X.K F ρ n v w) (hd : (x == ("__debug__" : Str)) = false) : SndE X (.Name x pos) (dCst v) := by
  intro F ρ env st v' st' σ H Q W E h k
  cases h
  exact wE_of (pe_glob hg hm ru hd) (k.here W (r _ _ _))
/-! any -/
theorem bls_ok {K : PySem.W.Frag} {F : Hp} {ρ : Nat → Addr} {n : Nat} : ∀ {xs : List PV} {vs : List V} {bs : List Bool}, blsOf xs = some bs → RelPs K F ρ n xs vs → vs = bs.map V.bl
  | [], _, _, e, h => by rw [blsOf] at e; cases e; rw [h.inv0]; rfl
  | x :: r, _, _, e, h => by
    obtain ⟨w, ws, rfl, h1, t⟩ := h.inv
    cases x with
    | bl b =>
      rw [blsOf] at e
      cases q : blsOf r with
      | none => rw [q] at e; cases e
      | some l =>
        rw [q] at e; cases e
        rw [bl_ok h1, bls_ok q t]; rfl
    | _ => exact absurd e (by unfold blsOf; simp)
theorem sc_any (hc : X.calm = true) : SndC X (.builtin "any") bAny := by
  intro F ρ st xs ws v st' H Q W r h k
  unfold bAny at h
  split at h
  · split at h
    · rename_i xs hx
      split at h
      · rename_i bs hb
        cases h
        obtain ⟨w, rfl, r1⟩ := one_inv r
        obtain ⟨p, vs, rfl, hq, r2⟩ := lst_ok W r1 hx
        refine wC_of (cr_any hc) ⟨p, bs, rfl, ?_, k.here W (rel_bl _)⟩
        rw [← bls_ok hb r2]
        exact .inl (.inl hq)
      · cases h
    · cases h
  · cases h
end
end DL

/-! DL4: what is walked, targets, comprehensions, statements, loops. -/
namespace DL
open PySem PySem.Spec PyProof.Rows L2

section
variable {X : Cx}
/-- an iterator that gives the items -/
def Drv (K : PySem.W.Frag) (F : Hp) (ρ : Nat → Addr) (n : Nat) (its : Its) (J : It) : Prop :=
  ∀ F2 ρ2 st2 H2 (i : Nat), Sub F F2 → (∀ l, l < n → ρ2 l = ρ l) → n ≤ st2.nxt → Wld K F2 ρ2 st2 H2 → its.ok st2 →
    (∀ x, its.items[i]? = some x → J.go i H2 ∧ ∀ w H3, J.yld i H2 w H3 → ∃ F3, Pst K F2 ρ2 st2 H2 F3 ρ2 st2 H3 ∧ RelP K F3 ρ2 st2.nxt x w) ∧ (its.items.length ≤ i → J.stop i H2)
def SndI (X : Cx) (tg it : Expr) (D : DI) : Prop := ∀ F ρ env st its st' σ H R, Wld X.K F ρ st H → ERel X.K F ρ st.nxt env σ → D env st = some (its, st') →
  (∀ F' ρ' J H', Pst X.K F ρ st H F' ρ' st' H' → Drv X.K F' ρ' st'.nxt its J → R J H') → wI X tg it σ H R
/-- σ' is σ but for the slots js -/
def SameBut (js : List Nat) (σ σ' : L2.St) : Prop := σ'.length = σ.length ∧ ∀ j, j ∉ js → σ'[j]? = σ[j]?
theorem SameBut.refl {js : List Nat} {σ : L2.St} : SameBut js σ σ := ⟨rfl, fun _ _ => rfl⟩
theorem SameBut.set {i : Nat} {σ : L2.St} {v : Option V} : SameBut [i] σ (σ.set i v) := ⟨List.length_set, fun j h => List.getElem?_set_ne (fun e => h (by simp [e]))⟩
theorem SameBut.trans {js ks : List Nat} {σ σ1 σ2 : L2.St} (a : SameBut js σ σ1) (b : SameBut ks σ1 σ2) : SameBut (js ++ ks) σ σ2 :=
  ⟨b.1.trans a.1, fun j h => by rw [List.mem_append, not_or] at h; rw [b.2 j h.2, a.2 j h.1]⟩
theorem wipe_get : ∀ (us : List Nat) (τ : L2.St) (j : Nat), (L2.wipe τ us)[j]? = if j ∈ us ∧ j < τ.length then some none else τ[j]?
  | [], τ, j => by simp [L2.wipe]
  | u :: us, τ, j => by
    rw [L2.wipe]
    by_cases q : u = j
    · subst q
      by_cases hl : u < τ.length
      · rw [List.getElem?_set_self (by rw [L2.wipe_length]; exact hl), if_pos ⟨List.mem_cons_self, hl⟩]
      · rw [List.getElem?_eq_none (by rw [List.length_set, L2.wipe_length]; omega), if_neg (fun z => hl z.2), List.getElem?_eq_none (by omega)]
    · rw [List.getElem?_set_ne q, wipe_get us τ j]
      have : (j ∈ u :: us) ↔ j ∈ us := by simp [Ne.symm q]
      simp only [this]
theorem wipe_wipe (σ : L2.St) (vs : List Nat) : L2.wipe (L2.wipe σ vs) vs = L2.wipe σ vs := by
  apply List.ext_getElem?
  intro j
  rw [wipe_get, wipe_get, L2.wipe_length]
  split <;> rfl
theorem SameBut.wipe {js vs : List Nat} {σ σ' : L2.St} (h : SameBut js σ σ') (hs : ∀ j ∈ js, j ∈ vs) : L2.wipe σ' vs = L2.wipe σ vs := by
  apply List.ext_getElem?
  intro j
  rw [wipe_get, wipe_get, h.1]
  split
  · rfl
  · rename_i q
    by_cases z : j ∈ js
    · have z2 := hs j z
      have : ¬ j < σ.length := fun w => q ⟨z2, w⟩
      rw [List.getElem?_eq_none (l := σ') (by rw [h.1]; omega), List.getElem?_eq_none (by omega)]
    · exact h.2 j z
def SndG (X : Cx) (tg : Expr) (G : DG) (js : List Nat) : Prop := ∀ F ρ env st v w e' st' σ H Q, Wld X.K F ρ st H → ERel X.K F ρ st.nxt env σ → RelP X.K F ρ st.nxt v w → G v env st = some (e', st') →
  (∀ F' ρ' σ' H', Pst X.K F ρ st H F' ρ' st' H' → ERel X.K F' ρ' st'.nxt e' σ' → SameBut js σ σ' → Q σ' H') → wG X tg w σ H Q
def SndGs (X : Cx) (ts : List Expr) (G : List PV → Env → M Env) (js : List Nat) : Prop := ∀ F ρ env st vs ws e' st' σ H Q, Wld X.K F ρ st H → ERel X.K F ρ st.nxt env σ → RelPs X.K F ρ st.nxt vs ws → G vs env st = some (e', st') →
  (∀ F' ρ' σ' H', Pst X.K F ρ st H F' ρ' st' H' → ERel X.K F' ρ' st'.nxt e' σ' → SameBut js σ σ' → Q σ' H') → wGs X ts ws σ H Q
variable {pos : Pos} {a b c e tg : Expr} {A B C : DE}

/-! ### what is walked -/
theorem drv_val {K : PySem.W.Frag} {F : Hp} {ρ : Nat → Addr} {n : Nat} {xs : List PV} {p : Addr} {vs : List V} (h : F p = some (.lst vs)) (r : RelPs K F ρ n xs vs) : Drv K F ρ n ⟨xs, none⟩ (Itl K p) := by
  intro F2 ρ2 st2 H2 i s hr hn W _
  have hH : SqL K H2 p vs := .inl (.inl (W.sub _ _ (s _ _ h)))
  refine ⟨fun x hx => ?_, fun hl => ⟨vs, hH, by rw [← r.length]; exact hl⟩⟩
  obtain ⟨w, hw, rw'⟩ := r.get hx
  refine ⟨⟨vs, w, hH, hw⟩, fun u H3 hy => ?_⟩
  obtain ⟨rfl, hy⟩ := hy
  have e := hy vs hH
  rw [hw] at e; cases e
  exact ⟨F2, Pst.refl W, rw'.mono s hr hn⟩
theorem drv_tup {K : PySem.W.Frag} {F : Hp} {ρ : Nat → Addr} {n : Nat} {xs : List PV} {p : Addr} {vs : List V} (h : SqT K F p vs) (r : RelPs K F ρ n xs vs) : Drv K F ρ n ⟨xs, none⟩ (Itt K p) := by
  intro F2 ρ2 st2 H2 i s hr hn W _
  have hH : SqT K H2 p vs := W.sub.sqT (s.sqT h)
  refine ⟨fun x hx => ?_, fun hl => ⟨vs, hH, by rw [← r.length]; exact hl⟩⟩
  obtain ⟨w, hw, rw'⟩ := r.get hx
  refine ⟨⟨vs, w, hH, hw⟩, fun u H3 hy => ?_⟩
  obtain ⟨rfl, hy⟩ := hy
  have e := hy vs hH
  rw [hw] at e; cases e
  exact ⟨F2, Pst.refl W, rw'.mono s hr hn⟩
theorem drv_loc {K : PySem.W.Frag} {F : Hp} {ρ : Nat → Addr} {n l : Nat} {xs : List PV} (hl : l < n) : Drv K F ρ n ⟨xs, some (l, .lst xs)⟩ (Itl K (ρ l)) := by
  intro F2 ρ2 st2 H2 i s hr hn W ok
  have ok : st2.cs l = some (.lst xs) := ok
  obtain ⟨_, vs, e, r⟩ := W.cell l _ ok
  rw [hr l hl] at e
  have hH : SqL K H2 (ρ l) vs := .inl (.inl e)
  refine ⟨fun x hx => ?_, fun hl => ⟨vs, hH, by rw [← r.length]; exact hl⟩⟩
  obtain ⟨w, hw, rw'⟩ := r.get hx
  refine ⟨⟨vs, w, hH, hw⟩, fun u H3 hy => ?_⟩
  obtain ⟨rfl, hy⟩ := hy
  have e := hy vs hH
  rw [hw] at e; cases e
  exact ⟨F2, Pst.refl W, rw'⟩
theorem drv_rng {K : PySem.W.Frag} {F : Hp} {ρ : Nat → Addr} {n : Nat} {lo hi : Int} : Drv K F ρ n ⟨rng lo hi, none⟩ (Itr lo (hi - lo).toNat) := by
  intro F2 ρ2 st2 H2 i s hr hn W _
  refine ⟨fun x hx => ?_, fun hl => ?_⟩
  · have hx : (rng lo hi)[i]? = some x := hx
    unfold rng at hx
    rw [List.getElem?_map] at hx
    by_cases hi' : i < (hi - lo).toNat
    · rw [List.getElem?_range hi'] at hx
      cases hx
      refine ⟨hi', fun u H3 hy => ?_⟩
      obtain ⟨rfl, rfl⟩ := hy
      exact ⟨F2, Pst.refl W, rel_int _⟩
    · rw [List.getElem?_eq_none (by rw [List.length_range]; omega)] at hx
      cases hx
  · have hl : (rng lo hi).length ≤ i := hl
    unfold rng at hl
    rw [List.length_map, List.length_range] at hl
    exact hl
theorem drv_rev {K : PySem.W.Frag} {F : Hp} {ρ : Nat → Addr} {n : Nat} {xs : List PV} {p : Addr} {vs : List V} (h : F p = some (.lst vs)) (r : RelPs K F ρ n xs vs) : Drv K F ρ n ⟨xs.reverse, none⟩ (Itv K p vs.length) := by
  intro F2 ρ2 st2 H2 i s hr hn W _
  have hH : SqL K H2 p vs := .inl (.inl (W.sub _ _ (s _ _ h)))
  have hl := r.length
  refine ⟨fun x hx => ?_, fun hz => ?_⟩
  · have hx : xs.reverse[i]? = some x := hx
    have hi : i < xs.length := by
      by_cases q : i < xs.length
      · exact q
      · rw [List.getElem?_eq_none (by rw [List.length_reverse]; omega)] at hx; cases hx
    rw [List.getElem?_reverse hi] at hx
    obtain ⟨w, hw, rw'⟩ := r.get hx
    rw [hl] at hw
    refine ⟨⟨by omega, vs, w, hH, hw⟩, fun u H3 hy => ?_⟩
    obtain ⟨rfl, hy⟩ := hy
    have e := hy vs hH
    rw [hw] at e; cases e
    exact ⟨F2, Pst.refl W, rw'.mono s hr hn⟩
  · have hz : xs.reverse.length ≤ i := hz
    rw [List.length_reverse] at hz
    show vs.length ≤ i
    omega
theorem drv_keys {K : PySem.W.Frag} {F : Hp} {ρ : Nat → Addr} {n : Nat} {ks : List PV} {a : Addr} {ob : Obj} {kws : List V} (h : F a = some (dO a ob)) (r : RelPs K F ρ n ks kws) : Drv K F ρ n ⟨ks, none⟩ (ItkO a ob kws) := by
  intro F2 ρ2 st2 H2 i s hr hn W _
  have hH : H2 a = some (dO a ob) := W.sub _ _ (s _ _ h)
  have hl := r.length
  refine ⟨fun x hx => ?_, fun hz => ⟨hH, by rw [← hl]; exact hz⟩⟩
  obtain ⟨w, hw, rw'⟩ := r.get hx
  refine ⟨⟨hH, (List.getElem?_eq_some_iff.mp hw).1⟩, fun u H3 hy => ?_⟩
  obtain ⟨rfl, hy⟩ := hy
  rw [hw] at hy; cases hy
  exact ⟨F2, Pst.refl W, rw'.mono s hr hn⟩
theorem drv_items {K : PySem.W.Frag} {F : Hp} {ρ : Nat → Addr} {n : Nat} {ks vs : List PV} {a : Addr} {ob : Obj} {kws vws : List V} (h : F a = some (dO a ob)) (r : RelPs K F ρ n ks kws) (r2 : RelPs K F ρ n vs vws) (hl : vs.length = ks.length) : Drv K F ρ n ⟨List.zipWith (fun k v => PV.tup [k, v]) ks vs, none⟩ (ItiO a ob kws vws) := by
  intro F2 ρ2 st2 H2 i s hr hn W _
  have hH : H2 a = some (dO a ob) := W.sub _ _ (s _ _ h)
  have hk := r.length
  have hz : (List.zipWith (fun k v => PV.tup [k, v]) ks vs).length = ks.length := by rw [List.length_zipWith, hl, Nat.min_self]
  refine ⟨fun x hx => ?_, fun hz' => ⟨hH, ?_⟩⟩
  · have hx : (List.zipWith (fun k v => PV.tup [k, v]) ks vs)[i]? = some x := hx
    have hi : i < ks.length := by rw [← hz]; exact (List.getElem?_eq_some_iff.mp hx).1
    rw [List.getElem?_zipWith, List.getElem?_eq_getElem hi, List.getElem?_eq_getElem (by omega)] at hx
    cases hx
    obtain ⟨w1, hw1, rw1⟩ := r.get (List.getElem?_eq_getElem hi)
    obtain ⟨w2, hw2, rw2⟩ := r2.get (List.getElem?_eq_getElem (show i < vs.length by omega))
    refine ⟨⟨hH, (List.getElem?_eq_some_iff.mp hw1).1⟩, fun u H3 hy => ?_⟩
    obtain ⟨T, k, v, h1, h2, rfl, h3, rfl⟩ := hy
    rw [hw1] at h1; cases h1
    rw [hw2] at h2; cases h2
    have p := W.new (o := .tup [w1, w2]) h3
    refine ⟨_, p, ?_⟩
    rw [RelP]
    refine ⟨T, [w1, w2], rfl, .inl (.inl upd_same), .cons ((rw1.mono s hr hn).mono p.ex (fun _ _ => rfl) (Nat.le_refl _)) (.cons ((rw2.mono s hr hn).mono p.ex (fun _ _ => rfl) (Nat.le_refl _)) .nil)⟩
  · have hz' : (List.zipWith (fun k v => PV.tup [k, v]) ks vs).length ≤ i := hz'
    rw [hz] at hz'
    omega
theorem si_items {o : Expr} {A : DE} {apos cpos : Pos} {elts : List Expr} {kk : Nat} {tpos : Pos} (hb : attributeBase o "items" X.env (eval o X.env) = eval o X.env) (hl : (apos.endLine == cpos.line) = true) (ha : SndE X o A) : SndI X (.Tuple elts kk tpos) (.Call (.Attribute o "items" apos) [] [] cpos) (iItems A) := by
  intro F ρ env st its st' σ H R W E h c
  obtain ⟨x, st1, h1, h⟩ := mb_eq h
  unfold itsItems at h
  split at h
  · cases h
    refine wI_of (pi_itemsO pe_w hb hl) (ha F ρ env st _ _ σ H _ W E h1 fun F1 ρ1 w1 H1 p1 r1 => ?_)
    rw [RelP] at r1
    obtain ⟨a, ob, kws, vws, rfl, q, r2, r3, d⟩ := r1
    have hll := dobj_len d r2 r3
    obtain ⟨hx, ⟨es, ep, hdt, he⟩, hs, _, _⟩ := d
    exact ⟨a, ob, kws, vws, es, ep, rfl, p1.wld.sub _ _ q, hx, hs, hdt, esr_keys he, esr_vals he, c F1 ρ1 _ H1 p1 (drv_items q r2 r3 hll)⟩
  · cases h
/-! enumerate -/
theorem numb_get : ∀ (xs : List PV) (k i : Nat), (numb k xs)[i]? = xs[i]?.map fun x => PV.tup [.int ((k + i : Nat) : Int), x]
  | [], k, i => by rw [numb]; simp
  | x :: r, k, 0 => by rw [numb]; simp
  | x :: r, k, i + 1 => by
    rw [numb, List.getElem?_cons_succ, List.getElem?_cons_succ, numb_get r (k + 1) i]
    rw [show k + 1 + i = k + (i + 1) by omega]
theorem numb_len : ∀ (xs : List PV) (k : Nat), (numb k xs).length = xs.length
  | [], k => by rw [numb]
  | x :: r, k => by rw [numb, List.length_cons, List.length_cons, numb_len r]
theorem drv_pair {K : PySem.W.Frag} {F2 : Hp} {ρ2 : Nat → Addr} {st2 : Sto} {H2 : Hp} {T : Addr} {i : Nat} {x : PV} {w : V} (W : Wld K F2 ρ2 st2 H2) (hT : H2 T = none) (r : RelP K F2 ρ2 st2.nxt x w) :
    ∃ F3, Pst K F2 ρ2 st2 H2 F3 ρ2 st2 (upd H2 T (.tup [.int (i : Nat), w])) ∧ RelP K F3 ρ2 st2.nxt (.tup [.int ((0 + i : Nat) : Int), x]) (.ref T) := by
  have p := W.new (o := .tup [.int (i : Nat), w]) hT
  refine ⟨_, p, ?_⟩
  rw [RelP]
  refine ⟨T, [.int (i : Nat), w], rfl, .inl (.inl upd_same), .cons ?_ (.cons (r.mono p.ex (fun _ _ => rfl) (Nat.le_refl _)) .nil)⟩
  rw [Nat.zero_add]
  exact rel_int _
theorem drv_enV {K : PySem.W.Frag} {F : Hp} {ρ : Nat → Addr} {n : Nat} {xs : List PV} {p : Addr} {vs : List V} (h : F p = some (.lst vs)) (r : RelPs K F ρ n xs vs) : Drv K F ρ n ⟨numb 0 xs, none⟩ (Ite K p) := by
  intro F2 ρ2 st2 H2 i s hr hn W _
  have hH : SqL K H2 p vs := .inl (.inl (W.sub _ _ (s _ _ h)))
  refine ⟨fun x hx => ?_, fun hl => ⟨vs, hH, by rw [← r.length]; exact (by rw [show (numb 0 xs).length = xs.length from numb_len xs 0] at hl; exact hl)⟩⟩
  have hx : (numb 0 xs)[i]? = some x := hx
  rw [numb_get] at hx
  cases e : xs[i]? with
  | none => rw [e] at hx; cases hx
  | some y =>
    rw [e] at hx; cases hx
    obtain ⟨w, hw, rw'⟩ := r.get e
    refine ⟨⟨vs, w, hH, hw⟩, fun u H3 hy => ?_⟩
    obtain ⟨T, z, rfl, hT, rfl, hz⟩ := hy
    have e2 := hz vs hH
    rw [hw] at e2; cases e2
    exact drv_pair W hT (rw'.mono s hr hn)
theorem drv_enT {K : PySem.W.Frag} {F : Hp} {ρ : Nat → Addr} {n : Nat} {xs : List PV} {p : Addr} {vs : List V} (h : SqT K F p vs) (r : RelPs K F ρ n xs vs) : Drv K F ρ n ⟨numb 0 xs, none⟩ (IteT K p) := by
  intro F2 ρ2 st2 H2 i s hr hn W _
  have hH : SqT K H2 p vs := W.sub.sqT (s.sqT h)
  refine ⟨fun x hx => ?_, fun hl => ⟨vs, hH, by rw [← r.length]; exact (by rw [show (numb 0 xs).length = xs.length from numb_len xs 0] at hl; exact hl)⟩⟩
  have hx : (numb 0 xs)[i]? = some x := hx
  rw [numb_get] at hx
  cases e : xs[i]? with
  | none => rw [e] at hx; cases hx
  | some y =>
    rw [e] at hx; cases hx
    obtain ⟨w, hw, rw'⟩ := r.get e
    refine ⟨⟨vs, w, hH, hw⟩, fun u H3 hy => ?_⟩
    obtain ⟨T, z, rfl, hT, rfl, hz⟩ := hy
    have e2 := hz vs hH
    rw [hw] at e2; cases e2
    exact drv_pair W hT (rw'.mono s hr hn)
theorem drv_enL {K : PySem.W.Frag} {F : Hp} {ρ : Nat → Addr} {n l : Nat} {xs : List PV} (hl : l < n) : Drv K F ρ n ⟨numb 0 xs, some (l, .lst xs)⟩ (Ite K (ρ l)) := by
  intro F2 ρ2 st2 H2 i s hr hn W ok
  have ok : st2.cs l = some (.lst xs) := ok
  obtain ⟨_, vs, e, r⟩ := W.cell l _ ok
  rw [hr l hl] at e
  have hH : SqL K H2 (ρ l) vs := .inl (.inl e)
  refine ⟨fun x hx => ?_, fun hl => ⟨vs, hH, by rw [← r.length]; exact (by rw [show (numb 0 xs).length = xs.length from numb_len xs 0] at hl; exact hl)⟩⟩
  have hx : (numb 0 xs)[i]? = some x := hx
  rw [numb_get] at hx
  cases e3 : xs[i]? with
  | none => rw [e3] at hx; cases hx
  | some y =>
    rw [e3] at hx; cases hx
    obtain ⟨w, hw, rw'⟩ := r.get e3
    refine ⟨⟨vs, w, hH, hw⟩, fun u H3 hy => ?_⟩
    obtain ⟨T, z, rfl, hT, rfl, hz⟩ := hy
    have e2 := hz vs hH
    rw [hw] at e2; cases e2
    exact drv_pair W hT rw'
theorem si_enum {p pos tpos : Pos} {elts : List Expr} {kk : Nat} (hg : Gl X "enumerate") (hm : X.mg "enumerate" = none) (hs : starEach [a] X.env = [(false, eval a X.env)]) (ha : SndE X a A) : SndI X (.Tuple elts kk tpos) (.Call (.Name "enumerate" p) [a] [] pos) (iEnumP A) := by
  intro F ρ env st its st' σ H R W E h c
  obtain ⟨x, st1, h1, h⟩ := mb_eq h
  unfold itsEnum at h
  split at h
  · cases h
    refine wI_of (pi_enum hg hm (pa_cons pe_w pa_nil hs) hs) ?_
    refine ha F ρ env st _ _ σ H _ W E h1 fun F1 ρ1 w1 H1 p1 r1 => ?_
    rw [RelP] at r1
    obtain ⟨q, vs, rfl, z, r⟩ := r1
    exact ⟨q, vs, rfl, .inl (.inl (p1.wld.sub _ _ z)), c F1 ρ1 _ H1 p1 (drv_enV z r)⟩
  · cases h
    refine wI_of (pi_enumT hg hm (pa_cons pe_w pa_nil hs) hs) ?_
    refine ha F ρ env st _ _ σ H _ W E h1 fun F1 ρ1 w1 H1 p1 r1 => ?_
    rw [RelP] at r1
    obtain ⟨q, vs, rfl, z, r⟩ := r1
    exact ⟨q, vs, rfl, p1.wld.sub.sqT z, c F1 ρ1 _ H1 p1 (drv_enT z r)⟩
  · split at h
    · rename_i l _ xs hl
      cases h
      refine wI_of (pi_enum hg hm (pa_cons pe_w pa_nil hs) hs) ?_
      refine ha F ρ env st _ _ σ H _ W E h1 fun F1 ρ1 w1 H1 p1 r1 => ?_
      rw [RelP] at r1
      obtain ⟨q, rfl⟩ := r1
      obtain ⟨_, vs, e, r⟩ := p1.wld.cell l _ hl
      exact ⟨_, vs, rfl, .inl (.inl e), c F1 ρ1 _ H1 p1 (drv_enL q)⟩
    · cases h
  · cases h
theorem si_rev {p pos : Pos} (hg : Gl X "reversed") (hm : X.mg "reversed" = none) (hs : starEach [a] X.env = (false, eval a X.env) :: starEach [] X.env) (ha : SndE X a A) : SndI X tg (.Call (.Name "reversed" p) [a] [] pos) (iRev A) := by
  intro F ρ env st its st' σ H R W E h c
  obtain ⟨x, st1, h1, h⟩ := mb_eq h
  unfold itsRev at h
  split at h
  · cases h
    refine wI_of (RT.pi_revA hg hm pe_w hs) (ha F ρ env st _ _ σ H _ W E h1 fun F1 ρ1 w1 H1 p1 r1 => ?_)
    rw [RelP] at r1
    obtain ⟨p, vs, rfl, q, r⟩ := r1
    exact ⟨p, vs, rfl, .inl ⟨.inl (.inl (p1.wld.sub _ _ q)), c F1 ρ1 _ H1 p1 (drv_rev q r)⟩⟩
  · cases h
theorem si_seq (ha : SndE X a A) : SndI X tg a (iSeq A) := by
  intro F ρ env st its st' σ H R W E h c
  obtain ⟨x, st1, h1, h⟩ := mb_eq h
  unfold itsOf at h
  split at h
  · cases h
    refine wI_of (pi_list pe_w) (ha F ρ env st _ _ σ H _ W E h1 fun F1 ρ1 w1 H1 p1 r1 => ?_)
    rw [RelP] at r1
    obtain ⟨p, vs, rfl, q, r⟩ := r1
    exact ⟨p, rfl, ⟨vs, .inl (.inl (p1.wld.sub _ _ q))⟩, c F1 ρ1 _ H1 p1 (drv_val q r)⟩
  · cases h
    refine wI_of (pi_tup pe_w) (ha F ρ env st _ _ σ H _ W E h1 fun F1 ρ1 w1 H1 p1 r1 => ?_)
    rw [RelP] at r1
    obtain ⟨p, vs, rfl, q, r⟩ := r1
    exact ⟨p, rfl, ⟨vs, p1.wld.sub.sqT q⟩, c F1 ρ1 _ H1 p1 (drv_tup q r)⟩
  · cases h
    refine wI_of (pi_keysO pe_w) (ha F ρ env st _ _ σ H _ W E h1 fun F1 ρ1 w1 H1 p1 r1 => ?_)
    rw [RelP] at r1
    obtain ⟨a, ob, kws, vws, rfl, q, r2, r3, d⟩ := r1
    obtain ⟨hx, ⟨es, ep, hdt, he⟩, hs, _, _⟩ := d
    exact ⟨a, ob, kws, es, ep, rfl, p1.wld.sub _ _ q, hx, hs, hdt, esr_keys he, c F1 ρ1 _ H1 p1 (drv_keys q r2)⟩
  · split at h
    · rename_i l _ xs hl
      cases h
      refine wI_of (pi_list pe_w) (ha F ρ env st _ _ σ H _ W E h1 fun F1 ρ1 w1 H1 p1 r1 => ?_)
      rw [RelP] at r1
      obtain ⟨q, rfl⟩ := r1
      obtain ⟨_, vs, e, r⟩ := p1.wld.cell l _ hl
      exact ⟨_, rfl, ⟨vs, .inl (.inl e)⟩, c F1 ρ1 _ H1 p1 (drv_loc q)⟩
    · cases h
  · cases h
theorem si_rng1 {p : Pos} (hg : Gl X "range") (hm : X.mg "range" = none) (ha : SndE X a A) (hs : starEach [a] X.env = [(false, eval a X.env)]) : SndI X tg (.Call (.Name "range" p) [a] [] pos) (iRng1 A) := by
  intro F ρ env st its st' σ H R W E h c
  obtain ⟨x, st1, h1, h⟩ := mb_eq h
  refine wI_of (pi_range1 hg hm (pa_cons pe_w pa_nil hs) hs) ?_
  refine ha F ρ env st x st1 σ H _ W E h1 fun F1 ρ1 w1 H1 p1 r1 => ?_
  obtain ⟨n, st2, h2, h⟩ := mb_eq h
  obtain ⟨rfl, rfl⟩ := asI_eq h2
  split at h
  · rename_i hn
    have hn := okRng_iff.mp hn
    cases h
    cases int_ok r1
    refine ⟨n, rfl, hn.1, hn.2, c F1 ρ1 _ H1 p1 ?_⟩
    have := drv_rng (K := X.K) (F := F1) (ρ := ρ1) (n := st'.nxt) (lo := 0) (hi := n)
    rw [Int.sub_zero] at this
    exact this
  · cases h
theorem si_rng2 {p : Pos} (hg : Gl X "range") (hm : X.mg "range" = none) (ha : SndE X a A) (hb : SndE X b B) (hs : starEach [a, b] X.env = [(false, eval a X.env), (false, eval b X.env)]) (hs2 : starEach [b] X.env = [(false, eval b X.env)]) : SndI X tg (.Call (.Name "range" p) [a, b] [] pos) (iRng2 A B) := by
  intro F ρ env st its st' σ H R W E h c
  obtain ⟨x, st1, h1, h⟩ := mb_eq h
  obtain ⟨y, st2, h2, h⟩ := mb_eq h
  refine wI_of (pi_range2 hg hm (pa_cons pe_w (pa_cons pe_w pa_nil hs2) (by rw [hs, hs2])) hs hs2) ?_
  refine ha F ρ env st x st1 σ H _ W E h1 fun F1 ρ1 w1 H1 p1 r1 => ?_
  refine hb F1 ρ1 env st1 y st2 σ H1 _ p1.wld (E.step p1) h2 fun F2 ρ2 w2 H2 p2 r2 => ?_
  obtain ⟨i, st3, h3, h⟩ := mb_eq h
  obtain ⟨rfl, rfl⟩ := asI_eq h3
  obtain ⟨j, st4, h4, h⟩ := mb_eq h
  obtain ⟨rfl, rfl⟩ := asI_eq h4
  split at h
  · rename_i hn
    rw [Bool.and_eq_true] at hn
    have h5 := okRng_iff.mp hn.1
    have h6 := okRng_iff.mp hn.2
    cases h
    cases int_ok r1
    cases int_ok r2
    exact ⟨_, _, rfl, ⟨h5.1, h5.2, h6.1, h6.2⟩, c F2 ρ2 _ H2 (p1.trans p2) drv_rng⟩
  · cases h

/-! ### targets -/
theorem lbs_set {n : Nat} {v : PV} : ∀ {xs : List PV}, lbs n xs = true → v.lb n = true → ∀ j, lbs n (xs.set j v) = true
  | [], h, _, _ => h
  | x :: r, h, hv, 0 => by
    rw [lbs, Bool.and_eq_true] at h
    rw [List.set_cons_zero, lbs, hv, h.2]; rfl
  | x :: r, h, hv, j + 1 => by
    rw [lbs, Bool.and_eq_true] at h
    rw [List.set_cons_succ, lbs, h.1, lbs_set h.2 hv j]; rfl
theorem Wld.st_lb {K : PySem.W.Frag} {F : Hp} {ρ : Nat → Addr} {st : Sto} {H : Hp} (W : Wld K F ρ st H) {l : Nat} {c : Cell} (h : st.cs l = some c) : c.lb st.nxt = true := st.wc l c h
theorem sg_name {i : Nat} {x : Str} (hN : X.N.Nodup) (hi : X.N[i]? = some x) (hx : Loc X.env.scope x) (hf : X.fn x = true ∨ X.env.scope.names.lookup x = some .local) : SndG X (.Name x pos) (gName i) [i] := by
  intro F ρ env st v w e' st' σ H Q W E r h c
  cases h
  exact wG_of (pg_name hN hi hx hf) (c F ρ _ H (Pst.refl W) (E.set r i) .set)
theorem sgs_nil : SndGs X [] (gList []) [] := by
  intro F ρ env st vs ws e' st' σ H Q W E r h c
  cases vs with
  | nil =>
    cases h
    cases r.inv0
    exact wGs_of pgs_nil ⟨rfl, c F ρ _ H (Pst.refl W) E .refl⟩
  | cons _ _ => cases h
theorem sgs_cons {es : List Expr} {G : DG} {Gs : List DG} {js ks : List Nat} (h1 : SndG X e G js) (h2 : SndGs X es (gList Gs) ks) (hs : (assignEach (e :: es) X.env).map (·.2) = assign e X.env :: (assignEach es X.env).map (·.2)) : SndGs X (e :: es) (gList (G :: Gs)) (js ++ ks) := by
  intro F ρ env st vs ws e' st' σ H Q W E r h c
  cases vs with
  | nil => cases h
  | cons v vs =>
    obtain ⟨e1, s1, h3, h⟩ := mb_eq h
    obtain ⟨w, ws, rfl, r1, r2⟩ := r.inv
    refine wGs_of (pgs_cons pg_w pgs_w hs) ⟨w, ws, rfl, h1 F ρ env st v w e1 s1 σ H _ W E r1 h3 fun F1 ρ1 σ1 H1 p1 E1 b1 => ?_⟩
    exact h2 F1 ρ1 e1 s1 vs ws e' st' σ1 H1 Q p1.wld E1 (r2.step p1) h fun F2 ρ2 σ2 H2 p2 E2 b2 => c F2 ρ2 σ2 H2 (p1.trans p2) E2 (b1.trans b2)
theorem gList_len : ∀ {Gs : List DG} {vs : List PV} {env : Env} {st : Sto} {r : Env × Sto}, gList Gs vs env st = some r → Gs.length = vs.length
  | [], [], _, _, _, _ => rfl
  | [], _ :: _, _, _, _, h => by cases h
  | _ :: _, [], _, _, _, h => by cases h
  | G :: Gs, v :: vs, env, st, r, h => by
    obtain ⟨e1, s1, _, h⟩ := mb_eq (b := r.1) (st := r.2) h
    rw [List.length_cons, List.length_cons, gList_len h]
theorem sg_tup {es : List Expr} {Gs : List DG} {k n : Nat} {js : List Nat} (hc : X.calm = true) (h : SndGs X es (gList Gs) js) (hn : (assignEach es X.env).length = n) (hst : (assignEach es X.env).findIdx? (·.1) = none) (hl : Gs.length = n) : SndG X (.Tuple es k pos) (gTup Gs) js := by
  intro F ρ env st v w e' st' σ H Q W E r h0 c
  unfold gTup at h0
  split at h0
  · rename_i xs
    obtain ⟨p, vs, rfl, q, r2⟩ := tup_ok W r
    refine wG_of (pg_tup hc pgs_w hn hst) ⟨p, vs, rfl, q, ?_, ?_⟩
    · rw [← r2.length, ← gList_len h0]; exact hl
    · exact h F ρ env st xs vs e' st' σ H Q W E r2 h0 c
  · cases h0
theorem sg_sub {o i : Expr} {O I : DE} (hu : X.A.units + 65 < cLine) (hasg : ∀ v, assign (.Subscript o i pos) X.env v = (do let ov ← holding [v] (eval o X.env); let iv ← holding [v, ov] (eval i X.env); standAt pos; holding [v, ov, iv] (setItem ov iv v); release [v, ov, iv] [])) (ho : SndE X o O) (hi : SndE X i I) : SndG X (.Subscript o i pos) (gSub O I) [] := by
  intro F ρ env st v w e' st' σ H Q W E r h c
  obtain ⟨x, st1, h1, h⟩ := mb_eq h
  obtain ⟨y, st2, h2, h⟩ := mb_eq h
  refine wG_of (pg_sub pe_w pe_w set_w hasg) ?_
  refine ho F ρ env st x st1 σ H _ W E h1 fun F1 ρ1 w1 H1 p1 r1 => ?_
  refine hi F1 ρ1 env st1 y st2 σ H1 _ p1.wld (E.step p1) h2 fun F2 ρ2 w2 H2 p2 r2 => ?_
  cases hs : setL x y v st2 with
  | none => rw [hs] at h; cases h
  | some s3 =>
    rw [hs] at h; cases h
    cases x with
    | loc l =>
      have hs : (match (generalizing := false) st2.cs l with
        | some (.lst xs) => match (generalizing := false) y with
          | .int i => match (generalizing := false) ixN xs.length i with
            | some j => if v.lb st2.nxt then some (st2.set l (.lst (xs.set j v))) else none
            | none => none
          | _ => none
        | some (.dct ks vs) => if goodK ks y && v.lb st2.nxt && decide (ks.length < sizeLine) then some (st2.set l (.dct (dput ks vs y v).1 (dput ks vs y v).2)) else none
        | some (.dki ks vs) => match (generalizing := false) y with
          | .int i => if v.lb st2.nxt && okLen (ks.length + 1) then some (st2.set l (.dki (iput ks vs i v).1 (iput ks vs i v).2)) else none
          | _ => none
        | none => none) = some st' := hs
      have r1 := r1.step p2
      rw [RelP] at r1
      obtain ⟨_, rfl⟩ := r1
      split at hs
      · rename_i xs hl
        split at hs
        · rename_i j hj
          split at hs
          · rename_i j' hj'
            split at hs
            · rename_i hb
              cases hs
              cases int_ok r2
              obtain ⟨_, vs, e, rc⟩ := p2.wld.cell l _ hl
              refine wSet_of set_list ⟨_, vs, _, j', rfl, rfl, e, by rw [← rc.length]; exact hj', ?_⟩
              have hw : lbs st2.nxt xs = true := p2.wld.st_lb hl
              have p3 := p2.wld.set hl (c := .lst (xs.set j' v)) (o := .lst (vs.set j' w)) (lbs_set hw hb j') ⟨_, rfl, rc.set (r.step (p1.trans p2)) j'⟩
              exact c _ _ _ _ ((p1.trans p2).trans p3) (((E.step p1).step p2).step p3) .refl
            · cases hs
          · cases hs
        · cases hs
      · rename_i ks vs hl
        split at hs
        · rename_i hb
          cases hs
          simp only [Bool.and_eq_true, decide_eq_true_eq] at hb
          refine setD_ok hu p2.wld hl r2 (r.step (p1.trans p2)) hb.1.1 hb.1.2 hb.2 fun F3 ρ3 H3 p3 => ?_
          exact c _ _ _ _ ((p1.trans p2).trans p3) (((E.step p1).step p2).step p3) .refl
        · cases hs
      · rename_i ks vs hl
        split at hs
        · rename_i j
          split at hs
          · rename_i hb
            cases hs
            rw [Bool.and_eq_true] at hb
            refine setI_ok hu p2.wld hl r2 (r.step (p1.trans p2)) hb.1 (by have := okLen_iff.mp hb.2; omega) fun F3 ρ3 H3 p3 => ?_
            exact c _ _ _ _ ((p1.trans p2).trans p3) (((E.step p1).step p2).step p3) .refl
          · cases hs
        · cases hs
      · cases hs
    | _ => cases hs

/-! ### comprehensions -/
theorem Ct.ofPst {K : PySem.W.Frag} {F F1 : Hp} {ρ ρ1 : Nat → Addr} {st st1 st' : Sto} {H H1 : Hp} {v : PV} {Q : VK} (a : Pst K F ρ st H F1 ρ1 st1 H1) (c : Ct K F ρ st H v st' Q) : Ct K F1 ρ1 st1 H1 v st' Q := fun F' ρ' w H' p r => c F' ρ' w H' (a.trans p) r
/-- the list that a comprehension fills, beside the world -/
structure Bes (K : PySem.W.Frag) (F1 : Hp) (ρ1 : Nat → Addr) (st1 : Sto) (H1 : Hp) (D : Addr) (F : Hp) (ρ : Nat → Addr) (st : Sto) (H : Hp) (ys : List PV) (acc : List V) : Prop where
  p : Pst K F1 ρ1 st1 H1 F ρ st H
  h1 : H1 D = none
  at' : H D = some (.lst acc)
  nF : F D = none
  nL : ∀ l c, st.cs l = some c → ρ l ≠ D
  rel : RelPs K F ρ st.nxt ys acc
theorem Bes.step {K : PySem.W.Frag} {F1 : Hp} {ρ1 : Nat → Addr} {st1 : Sto} {H1 : Hp} {D : Addr} {F : Hp} {ρ : Nat → Addr} {st : Sto} {H : Hp} {ys : List PV} {acc : List V} {F' : Hp} {ρ' : Nat → Addr} {st' : Sto} {H' : Hp}
    (b : Bes K F1 ρ1 st1 H1 D F ρ st H ys acc) (q : Pst K F ρ st H F' ρ' st' H') : Bes K F1 ρ1 st1 H1 D F' ρ' st' H' ys acc := by
  refine ⟨b.p.trans q, b.h1, q.ext D _ b.at' b.nL, ?_, fun l c z e => ?_, b.rel.step q⟩
  · cases e : F' D with
    | none => rfl
    | some o =>
      rcases q.fz D o e with h | h | ⟨l, c, h1, h2⟩
      · rw [b.nF] at h; cases h
      · rw [b.at'] at h; cases h
      · exact absurd h2 (b.nL l c h1)
  · by_cases h : l < st.nxt
    · obtain ⟨c0, h0⟩ := q.live l c h z
      exact b.nL l c0 h0 (by rw [← q.rho l h]; exact e)
    · have := q.fresh l c (Nat.not_lt.mp h) z
      rw [e, b.at'] at this; cases this
theorem Bes.push {K : PySem.W.Frag} {F1 : Hp} {ρ1 : Nat → Addr} {st1 : Sto} {H1 : Hp} {D : Addr} {F : Hp} {ρ : Nat → Addr} {st : Sto} {H : Hp} {ys : List PV} {acc : List V} {y : PV} {w : V}
    (b : Bes K F1 ρ1 st1 H1 D F ρ st H ys acc) (r : RelP K F ρ st.nxt y w) : Bes K F1 ρ1 st1 H1 D F ρ st (upd H D (.lst (acc ++ [w]))) (ys ++ [y]) (acc ++ [w]) :=
  ⟨b.p.side b.h1 b.nF b.nL, b.h1, upd_same, b.nF, b.nL, b.rel.append (.cons r .nil)⟩
theorem Bes.wld {K : PySem.W.Frag} {F1 : Hp} {ρ1 : Nat → Addr} {st1 : Sto} {H1 : Hp} {D : Addr} {F : Hp} {ρ : Nat → Addr} {st : Sto} {H : Hp} {ys : List PV} {acc : List V} (b : Bes K F1 ρ1 st1 H1 D F ρ st H ys acc) : Wld K F ρ st H := b.p.wld
theorem Bes.start {K : PySem.W.Frag} {F1 : Hp} {ρ1 : Nat → Addr} {st1 : Sto} {H1 : Hp} {D : Addr} (W : Wld K F1 ρ1 st1 H1) (h : H1 D = none) : Bes K F1 ρ1 st1 H1 D F1 ρ1 st1 (upd H1 D (.lst [])) [] [] := by
  have nF : F1 D = none := by
    cases e : F1 D with
    | none => rfl
    | some u => have := W.sub D u e; rw [h] at this; cases this
  have nL : ∀ l c, st1.cs l = some c → ρ1 l ≠ D := fun l c z => W.ne z h
  exact ⟨(Pst.refl W).side h nF nL, h, upd_same, nF, nL, .nil⟩
theorem Bes.fin {K : PySem.W.Frag} {F1 : Hp} {ρ1 : Nat → Addr} {st1 : Sto} {H1 : Hp} {D : Addr} {F : Hp} {ρ : Nat → Addr} {st st' : Sto} {H : Hp} {ys : List PV} {acc : List V} {m : Bool} {v : PV} {Q : VK}
    (b : Bes K F1 ρ1 st1 H1 D F ρ st H ys acc) (h : mkL m ys st = some (v, st')) (c : Ct K F1 ρ1 st1 H1 v st' Q) : Q (.ref D) H := by
  unfold mkL at h
  split at h
  · split at h
    · split at h
      · rename_i hl
        cases h
        refine c _ _ _ _ (b.p.keepL b.h1 b.nF b.nL b.at' (c := .lst ys) hl ⟨acc, rfl, b.rel⟩) ?_
        rw [RelP]
        exact ⟨by rw [Sto.alloc_nxt]; omega, by rw [if_pos rfl]⟩
      · cases h
    · cases h
      have p := b.p.keepV b.h1 b.nF b.nL b.at'
      refine c _ _ _ _ p ?_
      rw [RelP]
      refine ⟨D, acc, rfl, upd_same, b.rel.mono (fun x u z => ?_) (fun _ _ => rfl) (Nat.le_refl _)⟩
      rw [upd_ne (ne_of_none z b.nF)]; exact z
  · cases h
theorem mkL_len {m : Bool} {ys : List PV} {st : Sto} {r : PV × Sto} (h : mkL m ys st = some r) : ys.length ≤ sizeLine := by
  unfold mkL at h
  split at h
  · assumption
  · cases h
def SndTs (X : Cx) (ifs : List Expr) (D : DT) : Prop := ∃ t, PTs X ifs t ∧ ∀ F ρ env st b st' σ H Q, Wld X.K F ρ st H → ERel X.K F ρ st.nxt env σ → D env st = some (b, st') →
  (∀ F' ρ' H', Pst X.K F ρ st H F' ρ' st' H' → Q b H') → t σ H Q
abbrev Blk (X : Cx) (scope : Scope) (P : Cx → Prop) : Prop := ∀ (s : Shared) (H : Hp) (C : Addr) (cl : List (Str × Addr)) (fp : List Addr), P (X.blk s H scope (compEnvC scope cl C X.env) fp)
/-- the readings of a block's parts, whatever the block -/
def bE (X : Cx) (scope : Scope) (e : Expr) : TE := fun σ H Q => Blk X scope fun Y => wE Y e σ H Q
def bT (X : Cx) (scope : Scope) (e : Expr) : TT := fun σ H Q => Blk X scope fun Y => wT Y e σ H Q
def bG (X : Cx) (scope : Scope) (e : Expr) : TG := fun v σ H Q => Blk X scope fun Y => wG Y e v σ H Q
theorem pe_b {scope : Scope} {e : Expr} : Blk X scope fun Y => PE Y e (bE X scope e) := fun s H C cl fp => ⟨fun pins s' σ H' Q I h => h s H C cl fp pins s' I⟩
theorem pt_b {scope : Scope} {e : Expr} : Blk X scope fun Y => PT Y e (bT X scope e) := fun s H C cl fp => ⟨fun pins s' σ H' Q I h => h s H C cl fp pins s' I⟩
theorem pg_b {scope : Scope} {e : Expr} : Blk X scope fun Y => PG Y e (bG X scope e) := fun s H C cl fp => ⟨fun pins s' σ H' v u Q I r h => h s H C cl fp pins s' u I r⟩
/-- the tests of a comprehension: none or one -/
inductive Ifs (X : Cx) (scope : Scope) : List Expr → DT → Prop
  | nil : Ifs X scope [] tYes
  | one {c : Expr} {D : DT} : (Blk X scope fun Y => SndT Y c D) → Ifs X scope [c] D
def ifsT (X : Cx) (scope : Scope) : List Expr → TT
  | [c] => bT X scope c
  | _ => L2.tYes
theorem Ifs.pts {scope : Scope} {ifs : List Expr} {D : DT} (h : Ifs X scope ifs D) : Blk X scope fun Y => PTs Y ifs (ifsT X scope ifs) := fun s H C cl fp => by
  cases h with
  | nil => exact pts_nil
  | one h => exact pts_one (pt_b s H C cl fp)
theorem Ifs.run {scope : Scope} {ifs : List Expr} {D : DT} (h : Ifs X scope ifs D) {F ρ env st b st' σ H Q} (W : Wld X.K F ρ st H) (E : ERel X.K F ρ st.nxt env σ) (h0 : D env st = some (b, st'))
    (c : ∀ F' ρ' H', Pst X.K F ρ st H F' ρ' st' H' → Q b H') : ifsT X scope ifs σ H Q := by
  cases h with
  | nil => cases h0; exact c F ρ H (Pst.refl W)
  | one h => exact fun s H' C cl fp => h s H' C cl fp F ρ env st b st' σ H Q W E h0 c
theorem lc_run {elt it : Expr} {ifs : List Expr} {scope : Scope} {vs : List Nat} {I : DI} {G : DG} {T : DT} {A : DE} {m : Bool} (hI : SndI X tg it I) {js : List Nat} (hG : Blk X scope fun Y => SndG Y tg G js) (hjs : ∀ j ∈ js, j ∈ vs) (hT : Ifs X scope ifs T) (hA : Blk X scope fun Y => SndE Y elt A)
    {F : Hp} {ρ : Nat → Addr} {env : Env} {st : Sto} {v : PV} {st' : Sto} {σ : L2.St} {H : Hp} {Q : VK} (W : Wld X.K F ρ st H) (E : ERel X.K F ρ st.nxt env σ) (h : dLc m vs I G T A env st = some (v, st')) (c : Ct X.K F ρ st H v st' Q) :
    tLc (wI X tg it) (bG X scope tg) (ifsT X scope ifs) (bE X scope elt) vs σ H Q := by
  obtain ⟨its, st1, h1, h⟩ := mb_eq h
  obtain ⟨ys, st2, h2, h⟩ := mb_eq h
  refine hI F ρ env st its st1 σ H _ W E h1 fun F1 ρ1 J H1 p1 drv => ?_
  intro D hD
  have c1 := Ct.ofPst p1 c
  have E1 := (E.step p1).wipe vs
  have hz := mkL_len h
  have hww := wipe_wipe σ vs
  refine ⟨fun i mm H' => ∃ F2 ρ2 s2 done acc rest, Bes X.K F1 ρ1 st1 H1 D F2 ρ2 s2 H' done acc ∧ i + mm = its.items.length ∧ done.length ≤ i ∧ lcGo its G T A (wipeE env vs) (its.items.drop i) s2 = some (rest, st2) ∧ ys = done ++ rest, ⟨its.items.length, F1, ρ1, st1, [], [], ys, .start p1.wld hD, by omega, Nat.le_refl _, h2, rfl⟩, fun i mm H' hW => ?_⟩
  obtain ⟨F2, ρ2, s2, done, acc, rest, b, em, hdl, hg, rfl⟩ := hW
  have dr := fun hok => drv F2 ρ2 s2 H' i b.p.ex b.p.rho b.p.nxt b.wld hok
  by_cases hi : i < its.items.length
  · rw [List.drop_eq_getElem_cons hi, lcGo] at hg
    split at hg
    · rename_i hok
      obtain ⟨dgo, dyld⟩ := (dr hok).1 its.items[i] (List.getElem?_eq_getElem hi)
      obtain ⟨e1, s3, hg1, hg⟩ := mb_eq hg
      obtain ⟨k, s4, hg2, hg⟩ := mb_eq hg
      refine .inr ⟨dgo, fun H'' => ∃ F2 ρ2 s2 done' acc rest', Bes X.K F1 ρ1 st1 H1 D F2 ρ2 s2 H'' done' acc ∧ done'.length ≤ i + 1 ∧ lcGo its G T A (wipeE env vs) (its.items.drop (i + 1)) s2 = some (rest', st2) ∧ done ++ rest = done' ++ rest',
        fun H'' hN => ?_, fun w H3 hy => ?_⟩
      · obtain ⟨F5, ρ5, s5, d5, a5, r5, b5, l5, g5, y5⟩ := hN
        exact ⟨mm - 1, by omega, F5, ρ5, s5, d5, a5, r5, b5, by omega, l5, g5, y5⟩
      · obtain ⟨F3, p3, r3⟩ := dyld w H3 hy
        have b3 := b.step p3
        have E3 : ERel X.K F3 ρ2 s2.nxt (wipeE env vs) (L2.wipe σ vs) := E1.step b3.p
        intro s0 H0 C0 cl0 fp0
        refine hG s0 H0 C0 cl0 fp0 F3 ρ2 (wipeE env vs) s2 _ w e1 s3 (L2.wipe σ vs) H3 _ b3.wld E3 r3 hg1 fun F4 ρ4 σ4 H4 p4 E4 sb => ⟨(sb.wipe hjs).trans hww, ?_⟩
        · have b4 := b3.step p4
          refine hT.run b4.wld E4 hg2 fun F5 ρ5 H5 p5 => ?_
          have b5 := b4.step p5
          have E5 := E4.step p5
          cases k with
          | false =>
            exact ⟨F5, ρ5, s4, done, acc, rest, b5, by omega, hg, rfl⟩
          | true =>
            obtain ⟨y, s6, hg3, hg⟩ := mb_eq hg
            obtain ⟨zs, s7, hg4, hg⟩ := mb_eq hg
            cases hg
            show bE X scope elt σ4 H5 _
            intro s0 H0 C0 cl0 fp0
            refine hA s0 H0 C0 cl0 fp0 F5 ρ5 e1 s4 y s6 σ4 H5 _ b5.wld E5 hg3 fun F6 ρ6 w6 H6 p6 r6 => ?_
            have b6 := b5.step p6
            refine ⟨acc, b6.at', ?_, F6, ρ6, s6, done ++ [y], acc ++ [w6], zs, b6.push r6, by rw [List.length_append, List.length_singleton]; omega, hg4, by rw [List.append_assoc]; rfl⟩
            have hb := b6.rel.length
            rw [List.length_append, List.length_cons] at hz
            omega
    · cases hg
  · rw [List.drop_eq_nil_of_le (Nat.not_lt.mp hi), lcGo] at hg
    split at hg
    · rename_i hok
      cases hg
      rw [List.append_nil] at h
      exact .inl ⟨(dr hok).2 (Nat.not_lt.mp hi), b.fin h c1⟩
    · cases hg
end
end DL

/-! DL5: statements, defs. -/
namespace DL
open PySem PySem.Spec PyProof.Rows L2

section
variable {X : Cx}
theorem snd_lc {elt it tg : Expr} {ifs : List Expr} {scope : Scope} {pos : Pos} {own : List (Str × Nat)} {I : DI} {G : DG} {T : DT} {A : DE} {m : Bool} {js : List Nat} (hc : X.calm = true) (hN : X.N.Nodup) (ok : BlkOk X.N X.env.scope scope own) (hs : ∀ x, foldedSetIterable it X.env x = pure x)
    (hI : SndI X tg it I) (hG : Blk X scope fun Y => SndG Y tg G js) (hjs : ∀ j ∈ js, j ∈ own.map (·.2)) (hT : Ifs X scope ifs T) (hA : Blk X scope fun Y => SndE Y elt A) :
    SndE X (.ListComp elt [⟨tg, it, ifs, 0⟩] scope pos) (dLc m (own.map (·.2)) I G T A) := by
  intro F ρ env st v st' σ H Q W E h c
  exact wE_of (pe_lc hc hN pi_w ok pg_b hT.pts pe_b hs) (lc_run hI hG hjs hT hA W E h c)

/-! ### statements -/
def EndsOk (K : PySem.W.Frag) (F : Hp) (ρ : Nat → Addr) (st : Sto) (H : Hp) (fl : Fl) (st' : Sto) (E : Ends) : Prop := match fl with
  | .nx e => ∀ F' ρ' σ' H', Pst K F ρ st H F' ρ' st' H' → ERel K F' ρ' st'.nxt e σ' → E.nx σ' H'
  | .bk e => ∀ F' ρ' σ' H', Pst K F ρ st H F' ρ' st' H' → ERel K F' ρ' st'.nxt e σ' → E.bk σ' H'
  | .ct e => ∀ F' ρ' σ' H', Pst K F ρ st H F' ρ' st' H' → ERel K F' ρ' st'.nxt e σ' → E.ct σ' H'
  | .rt v => Ct K F ρ st H v st' E.rt
theorem EndsOk.of {K : PySem.W.Frag} {F F1 : Hp} {ρ ρ1 : Nat → Addr} {st st1 st' : Sto} {H H1 : Hp} {fl : Fl} {E : Ends} (p : Pst K F ρ st H F1 ρ1 st1 H1) (k : EndsOk K F ρ st H fl st' E) : EndsOk K F1 ρ1 st1 H1 fl st' E := by
  cases fl with
  | nx e => exact fun F' ρ' σ' H' q r => k F' ρ' σ' H' (p.trans q) r
  | bk e => exact fun F' ρ' σ' H' q r => k F' ρ' σ' H' (p.trans q) r
  | ct e => exact fun F' ρ' σ' H' q r => k F' ρ' σ' H' (p.trans q) r
  | rt v => exact fun F' ρ' σ' H' q r => k F' ρ' σ' H' (p.trans q) r
def SndS (X : Cx) (s : Stmt) (D : DS) : Prop := ∀ F ρ env st fl st' σ H (E : Ends), Wld X.K F ρ st H → ERel X.K F ρ st.nxt env σ → D env st = some (fl, st') → EndsOk X.K F ρ st H fl st' E → wS X s E σ H
def SndSs (X : Cx) (s : List Stmt) (D : DS) : Prop := ∀ F ρ env st fl st' σ H (E : Ends), Wld X.K F ρ st H → ERel X.K F ρ st.nxt env σ → D env st = some (fl, st') → EndsOk X.K F ρ st H fl st' E → wSs X s E σ H
variable {pos : Pos} {a b c e tg : Expr} {A B C : DE} {s : Stmt} {ss us : List Stmt} {D D' : DS}
theorem sss_nil : SndSs X [] sPass := fun F ρ env st fl st' σ H E W R h k => by
  cases h
  exact wSs_of pss_nil (k F ρ σ H (Pst.refl W) R)
theorem sss_cons (h1 : SndS X s D) (h2 : SndSs X ss D') : SndSs X (s :: ss) (sSeq D D') := fun F ρ env st fl st' σ H E W R h k => by
  obtain ⟨f, st1, h3, h⟩ := mb_eq h
  refine wSs_of (pss_cons ps_w pss_w) ?_
  refine h1 F ρ env st f st1 σ H { E with nx := fun σ' H' => wSs X ss E σ' H' } W R h3 ?_
  cases f with
  | nx e => exact fun F1 ρ1 σ1 H1 p1 R1 => h2 F1 ρ1 e st1 fl st' σ1 H1 E p1.wld R1 h (EndsOk.of p1 k)
  | bk e => cases h; exact k
  | ct e => cases h; exact k
  | rt v => cases h; exact k
/-- from here on the name's place is a value -/
def sFrz (i : Nat) : DS := fun env st => match env[i]? with
  | some (some v) => mb (frzL v st) fun x st1 => some (.nx (env.set i (some x)), st1)
  | _ => none
theorem ERel.frz {K : PySem.W.Frag} {F : Hp} {ρ : Nat → Addr} {n i : Nat} {env : Env} {σ : L2.St} {v : PV} {w : V} (h : ERel K F ρ n env σ) (hw : σ[i]? = some (some w)) (r : RelP K F ρ n v w) : ERel K F ρ n (env.set i (some v)) σ := by
  have e := h.set r i
  have e2 : σ.set i (some w) = σ := by
    apply List.ext_getElem?
    intro j
    by_cases q : i = j
    · subst q
      rw [List.getElem?_set_self (List.getElem?_eq_some_iff.mp hw).1, hw]
    · rw [List.getElem?_set_ne q]
  rw [e2] at e
  exact e
theorem sss_frz {i : Nat} (h : SndSs X ss D) : SndSs X ss (sSeq (sFrz i) D) := fun F ρ env st fl st' σ H E W R hD k => by
  obtain ⟨f, st1, h3, h4⟩ := mb_eq hD
  unfold sFrz at h3
  split at h3
  · rename_i v hv
    obtain ⟨x, st2, h5, h3⟩ := mb_eq h3
    cases h3
    obtain ⟨w, hw, r⟩ := R.2 i _ hv
    unfold frzL at h5
    split at h5
    · rename_i l
      split at h5
      · rename_i cc hl
        cases h5
        obtain ⟨F', P, r'⟩ := W.freeze hl
        rw [RelP] at r
        obtain ⟨_, rfl⟩ := r
        exact h F' ρ (env.set i (some cc.val)) _ fl st' σ H E P.wld ((R.step P).frz hw r') h4 (EndsOk.of P k)
      · cases h5
    · cases h5
  · cases h3
theorem sss_one (h1 : SndS X s D) : SndSs X [s] D := fun F ρ env st fl st' σ H E W R h k => wSs_of (pss_one ps_w) (h1 F ρ env st fl st' σ H E W R h k)
theorem ss_pass : SndS X (.Pass pos) sPass := fun F ρ env st fl st' σ H E W R h k => by
  cases h
  exact wS_of ps_pass (k F ρ σ H (Pst.refl W) R)
theorem ss_doc {x : Str} {j : Nat} {pos' : Pos} : SndS X (.Expr (.Constant (.str x) j pos) pos') sPass := fun F ρ env st fl st' σ H E W R h k => by
  cases h
  exact wS_of ps_doc (k F ρ σ H (Pst.refl W) R)
theorem ss_break : SndS X (.Break pos) sBreak := fun F ρ env st fl st' σ H E W R h k => by
  cases h
  exact wS_of ps_break (k F ρ σ H (Pst.refl W) R)
theorem ss_cont : SndS X (.Continue pos) sCont := fun F ρ env st fl st' σ H E W R h k => by
  cases h
  exact wS_of ps_continue (k F ρ σ H (Pst.refl W) R)
theorem ss_expr (ha : SndE X a A) (hs : swapsWith a none pos.line X.env = pure false) : SndS X (.Expr a pos) (sExpr A) := fun F ρ env st fl st' σ H E W R h k => by
  obtain ⟨x, st1, h1, h⟩ := mb_eq h
  cases h
  refine wS_of (ps_expr pe_w hs) ?_
  exact ha F ρ env st x st' σ H _ W R h1 fun F1 ρ1 w1 H1 p1 r1 => k F1 ρ1 σ H1 p1 (R.step p1)
theorem ss_ret (ha : SndE X a A) : SndS X (.Return (some a) pos) (sRet A) := fun F ρ env st fl st' σ H E W R h k => by
  obtain ⟨x, st1, h1, h⟩ := mb_eq h
  cases h
  refine wS_of (ps_ret pe_w) ?_
  exact ha F ρ env st x st' σ H _ W R h1 k
theorem ss_retN : SndS X (.Return none pos) sRetN := fun F ρ env st fl st' σ H E W R h k => by
  cases h
  exact wS_of ps_retN (k F ρ .non H (Pst.refl W) rel_non)
theorem ss_asg {G : DG} {js : List Nat} (hae : (assignEach [tg] X.env).map (·.2) = [assign tg X.env]) (hs : swapsWithSole [tg] a pos.line X.env = pure false) (hw : swappedStores [tg] a X.env = pure none) (ha : SndE X a A) (hg : SndG X tg G js) : SndS X (.Assign [tg] a pos) (sAsg A G) := fun F ρ env st fl st' σ H E W R h k => by
  obtain ⟨x, st1, h1, h⟩ := mb_eq h
  obtain ⟨e1, st2, h2, h⟩ := mb_eq h
  cases h
  refine wS_of (ps_asg pe_w pg_w hs hw (h1 := hae)) ?_
  refine ha F ρ env st x st1 σ H _ W R h1 fun F1 ρ1 w1 H1 p1 r1 => ?_
  exact hg F1 ρ1 env st1 x w1 e1 st' σ H1 E.nx p1.wld (R.step p1) r1 h2 fun F2 ρ2 σ2 H2 p2 R2 _ => k F2 ρ2 σ2 H2 (p1.trans p2) R2
theorem ss_setLc {i : Nat} {y : Str} {py : Pos} {elt it : Expr} {ifs : List Expr} {scope : Scope} {spos : Pos} {own : List (Str × Nat)} {I : DI} {G : DG} {T : DT} {A : DE} {m : Bool} {js : List Nat} (hc : X.calm = true) (hN : X.N.Nodup) (hy : X.N[i]? = some y) (hyl : X.env.scope.names.lookup y = some .local)
    (hsw : swapsWith (.ListComp elt [⟨tg, it, ifs, 0⟩] scope pos) (some (.Name y py)) spos.line X.env = pure true) (ok : BlkOk X.N X.env.scope scope own) (hs : ∀ x, foldedSetIterable it X.env x = pure x)
    (hI : SndI X tg it I) (hG : Blk X scope fun Y => SndG Y tg G js) (hjs : ∀ j ∈ js, j ∈ own.map (·.2)) (hT : Ifs X scope ifs T) (hA : Blk X scope fun Y => SndE Y elt A) :
    SndS X (.Assign [.Name y py] (.ListComp elt [⟨tg, it, ifs, 0⟩] scope pos) spos) (sAsg (dLc m (own.map (·.2)) I G T A) (gName i)) := fun F ρ env st fl st' σ H E W R h k => by
  obtain ⟨x, st1, h1, h⟩ := mb_eq h
  cases h
  refine wS_of (ps_setLc hc hN hy hyl hsw pi_w ok pg_b hT.pts pe_b hs) ?_
  refine lc_run hI hG hjs hT hA W R h1 fun F1 ρ1 w1 H1 p1 r1 => ?_
  exact k F1 ρ1 _ H1 p1 ((R.step p1).set r1 i)
theorem ss_aug {i : Nat} {x : Str} {op : Operator} {f : PV → PV → M PV} {pos' : Pos} (hN : X.N.Nodup) (hi : X.N[i]? = some x) (hx : Loc X.env.scope x) (hf : X.fn x = true ∨ X.env.scope.names.lookup x = some .local) (ho : SndO X (inplaceOp op) f) (ha : SndE X a A) : SndS X (.AugAssign (.Name x pos') op a pos) (sAug f i A) := fun F ρ env st fl st' σ H E W R h k => by
  unfold sAug at h
  split at h
  · rename_i x hx'
    obtain ⟨y, st1, h1, h⟩ := mb_eq h
    obtain ⟨z, st2, h2, h⟩ := mb_eq h
    cases h
    obtain ⟨w, hw, r⟩ := R.2 i _ hx'
    have hop : PIp X op (wR X (inplaceOp op)) := fun pins s σ H x y v u Q I r1 r2 q => q pins s σ v u I r1 r2
    refine wS_of (ps_aug hN hi hx pe_w hop hf) ⟨w, hw, ?_⟩
    refine ha F ρ env st y st1 σ H _ W R h1 fun F1 ρ1 w1 H1 p1 r1 => ?_
    exact ho F1 ρ1 st1 x y w w1 z st' H1 _ p1.wld (r.step p1) r1 h2 fun F2 ρ2 w2 H2 p2 r2 => k F2 ρ2 _ H2 (p1.trans p2) (((R.step p1).step p2).set r2 i)
  · cases h
theorem ss_if {t : Expr} {T : DT} (ht : SndT X t T) (h1 : SndSs X ss D) (h2 : SndSs X us D') : SndS X (.If t ss us pos) (sIf T D D') := fun F ρ env st fl st' σ H E W R h k => by
  obtain ⟨x, st1, h3, h⟩ := mb_eq h
  refine wS_of (ps_if pt_w pss_w pss_w) (ht F ρ env st x st1 σ H _ W R h3 fun F1 ρ1 H1 p1 => ?_)
  cases x with
  | true => exact h1 F1 ρ1 env st1 fl st' σ H1 E p1.wld (R.step p1) h (EndsOk.of p1 k)
  | false => exact h2 F1 ρ1 env st1 fl st' σ H1 E p1.wld (R.step p1) h (EndsOk.of p1 k)
theorem ss_for {it : Expr} {I : DI} {G : DG} {js : List Nat} (hx : X.xe = fun _ _ => False) (hc : X.calm = true) (hI : SndI X tg it I) (hG : SndG X tg G js) (hD : SndSs X ss D) (hs : ∀ x, foldedSetIterable it X.env x = pure x) : SndS X (.For tg it ss [] pos) (sFor I G D) := fun F ρ env st fl st' σ H E W R h k => by
  obtain ⟨its, st1, h1, h⟩ := mb_eq h
  refine wS_of (ps_for (by rw [hx]; exact PassesOwn.never) hc pi_w pg_w pss_w hs) ?_
  refine hI F ρ env st its st1 σ H _ W R h1 fun F1 ρ1 J H1 p1 drv => ?_
  refine ⟨fun i mm σ' H' => ∃ F2 ρ2 e2 s2, Pst X.K F1 ρ1 st1 H1 F2 ρ2 s2 H' ∧ ERel X.K F2 ρ2 s2.nxt e2 σ' ∧ i + mm = its.items.length ∧ forGo its G D (its.items.drop i) e2 s2 = some (fl, st'), ⟨its.items.length, F1, ρ1, env, st1, Pst.refl p1.wld, R.step p1, by omega, h⟩, fun i mm σ' H' hW => ?_⟩
  obtain ⟨F2, ρ2, e2, s2, p2, R2, em, hg⟩ := hW
  have dr := fun hok => drv F2 ρ2 s2 H' i p2.ex p2.rho p2.nxt p2.wld hok
  by_cases hi : i < its.items.length
  · rw [List.drop_eq_getElem_cons hi, forGo] at hg
    split at hg
    · rename_i hok
      obtain ⟨dgo, dyld⟩ := (dr hok).1 its.items[i] (List.getElem?_eq_getElem hi)
      obtain ⟨e3, s3, hg1, hg⟩ := mb_eq hg
      obtain ⟨f, s4, hg2, hg⟩ := mb_eq hg
      refine .inr ⟨dgo, fun σ'' H'' => ∃ F2 ρ2 e2 s2, Pst X.K F1 ρ1 st1 H1 F2 ρ2 s2 H'' ∧ ERel X.K F2 ρ2 s2.nxt e2 σ'' ∧ forGo its G D (its.items.drop (i + 1)) e2 s2 = some (fl, st'), fun σ'' H'' hN => ?_, fun w H3 hy => ?_⟩
      · obtain ⟨F5, ρ5, e5, s5, p5, R5, g5⟩ := hN
        exact ⟨mm - 1, by omega, F5, ρ5, e5, s5, p5, R5, by omega, g5⟩
      · obtain ⟨F3, p3, r3⟩ := dyld w H3 hy
        refine hG F3 ρ2 e2 s2 _ w e3 s3 σ' H3 _ p3.wld (R2.step p3) r3 hg1 fun F4 ρ4 σ4 H4 p4 R4 _ => ?_
        have p5 := (p2.trans p3).trans p4
        refine hD F4 ρ4 e3 s3 f s4 σ4 H4 _ p4.wld R4 hg2 ?_
        cases f with
        | nx e => exact fun F6 ρ6 σ6 H6 p6 R6 => ⟨F6, ρ6, e, s4, p5.trans p6, R6, hg⟩
        | ct e => exact fun F6 ρ6 σ6 H6 p6 R6 => ⟨F6, ρ6, e, s4, p5.trans p6, R6, hg⟩
        | bk e => cases hg; exact fun F6 ρ6 σ6 H6 p6 R6 => k F6 ρ6 σ6 H6 ((p1.trans p5).trans p6) R6
        | rt v => cases hg; exact fun F6 ρ6 σ6 H6 p6 R6 => k F6 ρ6 σ6 H6 ((p1.trans p5).trans p6) R6
    · cases hg
  · rw [List.drop_eq_nil_of_le (Nat.not_lt.mp hi), forGo] at hg
    split at hg
    · rename_i hok
      cases hg
      exact .inl ⟨(dr hok).2 (Nat.not_lt.mp hi), k F2 ρ2 σ' H' (p1.trans p2) R2⟩
    · cases hg
theorem ss_while {t : Expr} {T : DT} (hx : X.xe = fun _ _ => False) (ht : SndT X t T) (hD : SndSs X ss D) : SndS X (.While t ss [] pos) (sWhile T D) := fun F ρ env st fl st' σ H E W R h k => by
  refine wS_of (ps_while (by rw [hx]; exact PassesOwn.never) pt_w pss_w) ?_
  have h : whGo T D 100000 env st = some (fl, st') := h
  refine ⟨fun mm σ' H' => ∃ F2 ρ2 e2 s2, Pst X.K F ρ st H F2 ρ2 s2 H' ∧ ERel X.K F2 ρ2 s2.nxt e2 σ' ∧ whGo T D mm e2 s2 = some (fl, st'), ⟨100000, F, ρ, env, st, Pst.refl W, R, h⟩, fun mm σ' H' hW => ?_⟩
  obtain ⟨F2, ρ2, e2, s2, p2, R2, hg⟩ := hW
  cases mm with
  | zero => cases hg
  | succ mm =>
    rw [whGo] at hg
    obtain ⟨x, s3, hg1, hg⟩ := mb_eq hg
    refine ht F2 ρ2 e2 s2 x s3 σ' H' _ p2.wld R2 hg1 fun F3 ρ3 H3 p3 => ?_
    have p4 := p2.trans p3
    cases x with
    | false => cases hg; exact k F3 ρ3 σ' H3 p4 (R2.step p3)
    | true =>
      obtain ⟨f, s4, hg2, hg⟩ := mb_eq hg
      refine ⟨fun σ'' H'' => ∃ F2 ρ2 e2 s2, Pst X.K F ρ st H F2 ρ2 s2 H'' ∧ ERel X.K F2 ρ2 s2.nxt e2 σ'' ∧ whGo T D mm e2 s2 = some (fl, st'), fun σ'' H'' hN => ⟨mm, Nat.lt_succ_self _, hN⟩, ?_⟩
      refine hD F3 ρ3 e2 s3 f s4 σ' H3 _ p3.wld (R2.step p3) hg2 ?_
      cases f with
      | nx e => exact fun F6 ρ6 σ6 H6 p6 R6 => ⟨F6, ρ6, e, s4, p4.trans p6, R6, hg⟩
      | ct e => exact fun F6 ρ6 σ6 H6 p6 R6 => ⟨F6, ρ6, e, s4, p4.trans p6, R6, hg⟩
      | bk e => cases hg; exact fun F6 ρ6 σ6 H6 p6 R6 => k F6 ρ6 σ6 H6 (p4.trans p6) R6
      | rt v => cases hg; exact fun F6 ρ6 σ6 H6 p6 R6 => k F6 ρ6 σ6 H6 (p4.trans p6) R6
end

/-! ### defs -/
theorem fin_loc_ok {K : PySem.W.Frag} {F F1 : Hp} {ρ ρ1 : Nat → Addr} {st st1 : Sto} {H H1 : Hp} {l : Nat} {c : Cell} (p : Pst K F ρ st H F1 ρ1 st1 H1) (q : st.nxt ≤ l) (hc : st1.cs l = some c) (hlb : c.lb st.nxt = true) :
    ∃ F2 ρ2, Pst K F ρ st H F2 ρ2 ((st1.restr st.nxt).alloc c) H1 ∧ RelP K F2 ρ2 ((st1.restr st.nxt).alloc c).nxt (.loc st.nxt) (.ref (ρ1 l)) := by
    obtain ⟨hF, hr⟩ := p.wld.cell l c hc
    obtain ⟨o, ho⟩ := hr.some'
    rw [ho] at hr
    have e : (st1.kill l).restr st.nxt = st1.restr st.nxt := Sto.restr_kill_ge q
    obtain ⟨F2, s, p2, _, g⟩ := (p.kill l).drop rfl
    rw [e] at p2
    have nF : F2 (ρ1 l) = none := by
      cases z : F2 (ρ1 l) with
      | none => rfl
      | some u =>
        rcases g _ _ z with z | ⟨j, d, h1, h2, h3⟩
        · rw [hF] at z; cases z
        · by_cases hj : j = l
          · subst hj; rw [Sto.kill_get] at h2; cases h2
          · rw [Sto.kill_ne hj] at h2
            exact absurd (p.wld.inj j l d c h2 hc h3) hj
    have p3 := p2.keepL (D := ρ1 l) (o := o) (c := c) (p.fresh l c q hc) nF (fun j d z e => by
      obtain ⟨z1, z2, z3⟩ := Sto.restr_get z
      have := p.wld.inj j l d c z1 hc e
      omega) ho hlb (CRel.low (fun _ _ => rfl) hlb (CRel.mono s (fun _ _ => rfl) (Nat.le_refl _) hr))
    refine ⟨F2, _, p3, ?_⟩
    rw [RelP]
    exact ⟨by rw [Sto.alloc_nxt, Sto.restr_nxt]; omega, by rw [Sto.restr_nxt, if_pos rfl]⟩
theorem fin_ok {K : PySem.W.Frag} {F F1 : Hp} {ρ ρ1 : Nat → Addr} {st st1 st2 : Sto} {H H1 : Hp} {v v' : PV} {w : V} (p : Pst K F ρ st H F1 ρ1 st1 H1) (r : RelP K F1 ρ1 st1.nxt v w) (h : fin st.nxt v st1 = some (v', st2)) :
    ∃ F2 ρ2, Pst K F ρ st H F2 ρ2 st2 H1 ∧ RelP K F2 ρ2 st2.nxt v' w := by
  have go : (v.res st.nxt st1.cs).map (fun v' => (v', st1.restr st.nxt)) = some (v', st2) → ∃ F2 ρ2, Pst K F ρ st H F2 ρ2 st2 H1 ∧ RelP K F2 ρ2 st2.nxt v' w := fun h => by
    obtain ⟨F2, p2, r2⟩ := settle_ok p r h
    exact ⟨F2, ρ1, p2, r2⟩
  unfold fin at h
  split at h
  · rename_i l
    rw [RelP] at r
    obtain ⟨r1, rfl⟩ := r
    split at h
    · rename_i q
      cases h
      obtain ⟨F2, s, p2, _⟩ := p.drop rfl
      refine ⟨F2, ρ1, p2, ?_⟩
      rw [RelP]
      exact ⟨q, rfl⟩
    · rename_i q
      have q := Nat.not_lt.mp q
      cases hc : st1.cs l with
      | none => rw [hc] at h; cases h
      | some c =>
       rw [hc] at h
       have h : (if c.lb st.nxt then some (PV.loc st.nxt, (st1.restr st.nxt).alloc c) else none) = some (v', st2) := h
       split at h
       · rename_i hlb
         cases h
         exact fin_loc_ok p q hc hlb
       · cases h
  · exact go h

/-- where a body stands: names, scope, room -/
structure GoodX (X : Cx) (N : List Str) (sc : Scope) (fn : Str → Bool) (k : Nat) : Prop where
  hN : X.N = N
  hsc : X.env.scope = sc
  hfn : X.fn = fn
  calm : X.calm = true
  nd : N.Nodup
  xe : X.xe = fun _ _ => False
  room : Room k X.A
section
variable {P : Program} {w : World} {K : PySem.W.Frag} {mg : Str → Option Value} {base : Heap}
theorem fn_sound {x qual : Str} {st : Stmt} {f : Addr} {fd : FuncData} {N ps : List Str} {k : Nat} {D : DS} (F : Fun K x qual st f fd) (S : FnScope N ps (defScope st))
    (h : ∀ X : Cx, X.prog = P → X.w = w → X.K = K → X.mg = mg → X.base = base → GoodX X N (defScope st) (fun _ => true) k → SndSs X (defBody st) D) :
    FnOk P w K mg base CX0 (k + 1) f fd ps (spOf K ps.length (runF N.length ps.length D)) := by
  refine F.ok S (fun vs H Q E h => h.1) (fun cdv A outer s H vs Q E hr hsp => ?_)
  obtain ⟨hlen, F0, ρ, st0, args, v, st', W, r, hD, c⟩ := hsp
  refine ⟨_, pss_w, ?_⟩
  unfold runF at hD
  split at hD
  · rename_i hl
    have R : ERel K F0 ρ st0.nxt (args.map some ++ List.replicate (N.length - args.length) none) (L2.start N vs) := by
      unfold L2.start
      rw [r.length]
      refine ⟨by simp [r.length], fun i u e => ?_⟩
      by_cases q : i < args.length
      · rw [List.getElem?_append_left (by rw [List.length_map]; exact q), List.getElem?_map] at e
        cases z : args[i]? with
        | none => rw [z] at e; cases e
        | some y =>
          rw [z] at e; cases e
          obtain ⟨w, hw, rw'⟩ := r.get z
          refine ⟨w, ?_, rw'⟩
          rw [List.getElem?_append_left (by rw [List.length_map, ← r.length]; exact q), List.getElem?_map, hw]
          rfl
      · rw [List.getElem?_append_right (by rw [List.length_map]; omega), List.getElem?_replicate] at e
        split at e <;> cases e
    refine (fun (z : ∃ fl st1, D (args.map some ++ List.replicate (N.length - args.length) none) st0 = some (fl, st1) ∧ EndsOk K F0 ρ st0 H fl st1 { nx := fun _ H' => Q .non H', rt := Q }) => ?_) ?_
    · obtain ⟨fl, st1, z1, z2⟩ := z
      exact h _ rfl rfl rfl rfl rfl ⟨rfl, rfl, rfl, by have := hr.hd; first | rfl | exact decide_eq_true this | simp [cxOf, this], S.nd, rfl, hr⟩ F0 ρ _ st0 fl st1 _ H _ W R z1 z2
    · split at hD
      · rename_i u st1 z
        refine ⟨_, _, z, fun F1 ρ1 w1 H1 p1 r1 => ?_⟩
        obtain ⟨F2, ρ2, p2, r2⟩ := fin_ok p1 r1 hD
        exact c F2 ρ2 w1 H1 p2 r2
      · rename_i e st1 z
        refine ⟨_, _, z, fun F1 ρ1 σ1 H1 p1 R1 => ?_⟩
        obtain ⟨F2, ρ2, p2, r2⟩ := fin_ok p1 rel_non hD
        exact c F2 ρ2 .non H1 p2 r2
      · cases hD
  · cases hD
theorem fn_soundK {x qual : Str} {st : Stmt} {f : Addr} {fd : FuncData} {N ps : List Str} {k : Nat} {D : DS} (F : Fun K x qual st f fd) (S : FnScope N ps (defScope st))
    (h : ∀ X : Cx, X.prog = P → X.w = w → X.K = K → X.mg = mg → X.base = base → GoodX X N (defScope st) (fun _ => true) k → SndSs X (defBody st) D) :
    FnOk P w K mg base CX0 (k + 1) f fd ps (spOf K ps.length (runK N.length ps.length D)) := by
  refine F.ok S (fun vs H Q E h => h.1) (fun cdv A outer s H vs Q E hr hsp => ?_)
  obtain ⟨hlen, F0, ρ, st0, args, v, st', W, r, hD, c⟩ := hsp
  refine ⟨_, pss_w, ?_⟩
  unfold runK at hD
  split at hD
  · rename_i hl
    have R : ERel K F0 ρ st0.nxt (args.map some ++ List.replicate (N.length - args.length) none) (L2.start N vs) := by
      unfold L2.start
      rw [r.length]
      refine ⟨by simp [r.length], fun i u e => ?_⟩
      by_cases q : i < args.length
      · rw [List.getElem?_append_left (by rw [List.length_map]; exact q), List.getElem?_map] at e
        cases z : args[i]? with
        | none => rw [z] at e; cases e
        | some y =>
          rw [z] at e; cases e
          obtain ⟨w, hw, rw'⟩ := r.get z
          refine ⟨w, ?_, rw'⟩
          rw [List.getElem?_append_left (by rw [List.length_map, ← r.length]; exact q), List.getElem?_map, hw]
          rfl
      · rw [List.getElem?_append_right (by rw [List.length_map]; omega), List.getElem?_replicate] at e
        split at e <;> cases e
    refine (fun (z : ∃ fl st1, D (args.map some ++ List.replicate (N.length - args.length) none) st0 = some (fl, st1) ∧ EndsOk K F0 ρ st0 H fl st1 { nx := fun _ H' => Q .non H', rt := Q }) => ?_) ?_
    · obtain ⟨fl, st1, z1, z2⟩ := z
      exact h _ rfl rfl rfl rfl rfl ⟨rfl, rfl, rfl, by have := hr.hd; first | rfl | exact decide_eq_true this | simp [cxOf, this], S.nd, rfl, hr⟩ F0 ρ _ st0 fl st1 _ H _ W R z1 z2
    · split at hD
      · rename_i u st1 z
        cases hD
        exact ⟨_, _, z, c⟩
      · rename_i e st1 z
        cases hD
        exact ⟨_, _, z, fun F1 ρ1 σ1 H1 p1 R1 => c F1 ρ1 .non H1 p1 rel_non⟩
      · cases hD
  · cases hD
end
end DL

/-! DL6: from the text's syntax to the pieces, once for all. -/
namespace DL
open PySem PySem.Spec PyProof.Rows L2

/-- what the translator knows: slots, scope, defs (parameters, what they compute), built-ins that are still built-ins, places whose new list may change later -/
structure Ctx where
  N : List Str
  sc : Scope
  fn : Str → Bool
  G : List (Str × Nat × FSem)
  bs : List Str
  mu : List (Nat × Nat × Nat)
  cs : List (Str × PV) := []

def ixOf (x : Str) : List Str → Option Nat
  | [] => none
  | y :: r => if y = x then some 0 else (ixOf x r).map (· + 1)
theorem ixOf_get {x : Str} : ∀ {N : List Str} {i : Nat}, ixOf x N = some i → N[i]? = some x
  | [], _, h => by cases h
  | y :: r, i, h => by
    rw [ixOf] at h
    split at h
    · rename_i e
      cases h
      rw [e]; rfl
    · cases e : ixOf x r with
      | none => rw [e] at h; cases h
      | some j =>
        rw [e] at h; cases h
        show r[j]? = some x
        exact ixOf_get e
def Ctx.flag (C : Ctx) (p : Pos) : Bool := C.mu.contains (p.line, p.col, p.endCol)
def Ctx.flagI (C : Ctx) (p : Pos) : Bool := C.mu.contains (p.line, p.col, p.endCol + 2000000)
def Ctx.isGl (C : Ctx) (x : Str) : Bool := match C.sc.names.lookup x with
  | some .globalImplicit => true
  | _ => false
def Ctx.isB (C : Ctx) (x : Str) : Bool := C.isGl x && C.bs.contains x
def Ctx.vis (C : Ctx) (x : Str) : Bool := match C.sc.names.lookup x with
  | some .local => true
  | some .cell => true
  | some .free => true
  | _ => false
def Ctx.loc (C : Ctx) (x : Str) : Bool := match C.sc.names.lookup x with
  | some .local => true
  | some .cell => C.fn x
  | _ => false

def notStar : Expr → Bool
  | .Starred _ _ => false
  | _ => true
def notSet : Expr → Bool
  | .Set _ _ _ => false
  | _ => true
def notSlice : Expr → Bool
  | .Slice _ _ _ _ => false
  | _ => true
def notComp : Expr → Bool
  | .ListComp _ _ _ _ => false
  | .SetComp _ _ _ _ => false
  | .DictComp _ _ _ _ _ => false
  | _ => true
def notDisp : Expr → Bool
  | .Tuple _ _ _ => false
  | .List _ _ => false
  | _ => true
def notCall : Expr → Bool
  | .Call _ _ _ _ => false
  | _ => true

inductive BI where
  | len | abs | int | max | min | tuple | list | sorted | sum | any
  deriving DecidableEq
def BI.nm : BI → Str
  | .len => "len" | .abs => "abs" | .int => "int" | .max => "max" | .min => "min" | .tuple => "tuple" | .list => "list" | .sorted => "sorted" | .sum => "sum" | .any => "any"
def BI.all : List BI := [.len, .abs, .int, .max, .min, .tuple, .list, .sorted, .sum, .any]
noncomputable def BI.sem (m : Bool) : BI → FSem
  | .len => bLen | .abs => bAbs | .int => bInt | .max => bMax | .min => bMin | .tuple => bTuple | .list => bList m | .sorted => bSorted m | .sum => bSum | .any => bAny
def BI.of (x : Str) : Option BI := BI.all.find? fun b => b.nm = x
def BTy.all : List BTy := [.int, .bool, .str, .list, .tuple, .dict]
def BTy.of (x : Str) : Option BTy := BTy.all.find? fun b => b.name = x
theorem BI.of_nm {x : Str} {b : BI} (h : BI.of x = some b) : x = b.nm := by
  have := List.find?_some h
  exact (of_decide_eq_true this).symm
theorem BTy.of_name {x : Str} {b : BTy} (h : BTy.of x = some b) : x = b.name := by
  have := List.find?_some h
  exact (of_decide_eq_true this).symm
inductive LM where
  | append | pop | reverse | popAt | insert | extend
  deriving DecidableEq
def LM.nm : LM → Str
  | .append => "append" | .pop => "pop" | .reverse => "reverse" | .popAt => "pop" | .insert => "insert" | .extend => "extend"
def LM.of (x : Str) (k : Nat) : Option LM := if x = "append" ∧ k = 1 then some .append else if x = "pop" ∧ k = 0 then some .pop else if x = "reverse" ∧ k = 0 then some .reverse else if x = "pop" ∧ k = 1 then some .popAt else if x = "insert" ∧ k = 2 then some .insert else if x = "extend" ∧ k = 1 then some .extend else none
def LM.sem : LM → Nat → FSem
  | .append => mAppend | .pop => mPop | .reverse => mReverse | .popAt => mPopAt | .insert => mInsert | .extend => mExtend

def opSem (m : Bool) : Operator → Option (PV → PV → M PV)
  | .Add => some (opAdd m)
  | .Sub => some opSub
  | .Mult => some opMul
  | .Mod => some opMod
  | .FloorDiv => some opDiv
  | .Pow => some opPow
  | _ => none
def cmpSem : CmpOp → Option (PV → PV → M PV)
  | .Eq => some (cmpEq false)
  | .NotEq => some (cmpEq true)
  | .Lt => some cmpLt
  | .LtE => some (cmpI fun i j => decide (i ≤ j))
  | .Gt => some (cmpI fun i j => decide (j < i))
  | .GtE => some (cmpI fun i j => decide (j ≤ i))
  | .In => some (cmpIn false)
  | .NotIn => some (cmpIn true)
  | _ => none
def isNeg : CmpOp → Option Bool
  | .Is => some false
  | .IsNot => some true
  | _ => none

def trName (C : Ctx) (x : Str) (fz : Bool) : Option DE := match ixOf x C.N with
  | some i => if C.vis x && !(x == ("__debug__" : Str)) && !(x == ("__classdict__" : Str)) then (if fz then some (dFrz i) else some (dVar i)) else none
  | none => if C.isGl x && !(x == ("__debug__" : Str)) && !fz then (C.cs.lookup x).map dCst else none
def trConst : Const → Option DE
  | .int i => some (dCst (.int i))
  | .bool b => some (dCst (.bl b))
  | .str s => some (dCst (.str s))
  | .none => some (dCst .non)
  | _ => none
def trAs (f : Expr → Option DE) : List Expr → Option DA
  | [] => some aNil
  | e :: r => if notStar e then match f e, trAs f r with
    | some A, some D => some (aCons A D)
    | _, _ => none
    else none
def isNone : Expr → Bool
  | .Constant .none _ _ => true
  | _ => false
def trCmp (f : Expr → Option DE) (a : Expr) : List CmpOp → List Expr → Option DE
  | [op], [b] => match isNeg op with
    | some neg => if isNone b then (f a).map (dUn (cmpIsN neg)) else none
    | none => if notSet b then match f a, f b, cmpSem op with
      | some A, some B, some g => some (dBin g A B)
      | _, _, _ => none
      else none
  | [op, op'], [b, c] => if notSet c then match f a, f b, f c, cmpSem op, cmpSem op' with
      | some A, some B, some D, some g, some g' => some (dChain g g' A B D)
      | _, _, _, _, _ => none
      else none
  | _, _ => none
def trBools (f : Expr → Option DE) (op : DE → DE → DE) : List Expr → Option DE
  | [] => none
  | [e] => f e
  | e :: e2 :: r => match f e, trBools f op (e2 :: r) with
    | some A, some D => some (op A D)
    | _, _ => none
def trTests (f : Expr → Option DT) (op : DT → DT → DT) : List Expr → Option DT
  | [] => none
  | [e] => f e
  | e :: e2 :: r => match f e, trTests f op (e2 :: r) with
    | some A, some D => some (op A D)
    | _, _ => none
def trO (f : Expr → Option DE) : Option Expr → Option DO
  | none => some oNone
  | some e => (f e).map oSome
def trSub (C : Ctx) (f : Expr → Option DE) (a i : Expr) (pos : Pos) : Option DE := match i with
  | .Slice none none (some (.UnaryOp .USub (.Constant (.int 1) _ _) _)) _ => (f a).map dRvT
  | .Slice lo hi none _ => match f a, trO f lo, trO f hi with
    | some A, some L, some U => some (dSl (C.flag pos) A L U)
    | _, _, _ => none
  | i => if notSlice i then match f a, f i with
    | some A, some I => some (dBin opIx A I)
    | _, _ => none
    else none
def isIsi : List Expr → Option (Expr × Str)
  | [a, .Name t _] => some (a, t)
  | _ => none
def isSet (x : Str) : List Expr → Option Expr
  | [.Call (.Name y _) [a] [] _] => if x = "sorted" ∧ y = "set" then some a else none
  | _ => none
theorem mapS {α β : Type} {D : Option α} {f : α → β} {b : β} (h : D.map f = some b) : ∃ A, D = some A ∧ b = f A := by
  cases D with
  | none => cases h
  | some A => cases h; exact ⟨A, rfl, rfl⟩
theorem isSet_eq {x : Str} {es : List Expr} {a : Expr} (h : isSet x es = some a) : x = "sorted" ∧ ∃ p2 pos2, es = [.Call (.Name "set" p2) [a] [] pos2] := by
  unfold isSet at h
  split at h
  · split at h
    · rename_i q
      cases h
      obtain ⟨rfl, rfl⟩ := q
      exact ⟨rfl, _, _, rfl⟩
    · cases h
  · cases h
noncomputable def trCallN (C : Ctx) (f : Expr → Option DE) (x : Str) (as : List Expr) (pos : Pos) : Option DE := match as with
  | [] => none
  | e :: r =>
    if x = "isinstance" then (if C.isB x then match isIsi (e :: r) with
      | some (a, t) => if notStar a && C.isB t then match BTy.of t, f a with
        | some T, some A => some (dUn (bIsi T) A)
        | _, _ => none
        else none
      | none => none
      else none)
    else if C.isB x then match isSet x (e :: r) with
      | some a => if C.isB "set" && notStar a then (f a).map fun A => dApp (bSortedSet (C.flag pos)) (aCons A aNil) else none
      | none => match BI.of x, trAs f (e :: r) with
        | some b, some D => some (dApp (b.sem (C.flag pos)) D)
        | _, _ => none
    else if C.isGl x && !(x == ("__debug__" : Str)) then match C.G.lookup x, trAs f (e :: r) with
      | some (np, S), some D => if (e :: r).length = np then some (dCall S (C.flag pos) D) else none
      | _, _ => none
    else none
def trGet (f : Expr → Option DE) (o : Expr) : List Expr → Option DE
  | [e, v] => if notStar e && notStar v then match f o, f e, f v with
    | some O, some K, some V => some (dGet2 O K V)
    | _, _, _ => none
    else none
  | [e] => if notStar e then match f o, f e with
    | some O, some K => some (dGet1 O K)
    | _, _ => none
    else none
  | _ => none
def trMeth (f : Expr → Option DE) (o : Expr) (name : Str) (as : List Expr) (apos pos : Pos) : Option DE :=
  if name = "get" then (if notCall o && apos.endLine == pos.line then trGet f o as else none)
  else if notCall o && apos.endLine == pos.line then match LM.of name as.length, f o, trAs f as with
    | some m, some O, some D => some (dMetL m.sem O D)
    | _, _, _ => none
  else none
def ownOf (N : List Str) : List (Str × NameKind) → List (Str × Nat)
  | [] => []
  | (x, k) :: r => if k = .local ∨ k = .cell then match ixOf x N with
    | some i => (x, i) :: ownOf N r
    | none => ownOf N r
    else ownOf N r
def Ctx.blk (C : Ctx) (scope : Scope) : Ctx := { C with sc := relS scope C.sc, fn := fun x => scope.names.lookup x == some .cell }
def trTuple (f : Expr → Option (DG × List Nat)) : List Expr → Option (List DG × List Nat)
  | [] => some ([], [])
  | e :: r => if notStar e then match f e, trTuple f r with
    | some (G, js), some (Gs, ks) => some (G :: Gs, js ++ ks)
    | _, _ => none
    else none
def isItems : Expr → Option (Expr × Pos × Pos)
  | .Call (.Attribute o name ap) [] [] p => if name = "items" then some (o, ap, p) else none
  | _ => none
theorem isItems_eq {e o : Expr} {ap p : Pos} (h : isItems e = some (o, ap, p)) : e = .Call (.Attribute o "items" ap) [] [] p := by
  unfold isItems at h
  split at h
  · split at h
    · rename_i q
      cases h
      rw [q]
    · cases h
  · cases h
def isEnum (C : Ctx) : Expr → Option Expr
  | .Call (.Name x _) [a] [] _ => if x = "enumerate" ∧ C.isB x = true then some a else none
  | _ => none
theorem isEnum_eq {C : Ctx} {e a : Expr} (h : isEnum C e = some a) : ∃ p pos, e = .Call (.Name "enumerate" p) [a] [] pos ∧ C.isB "enumerate" = true := by
  unfold isEnum at h
  split at h
  · split at h
    · rename_i q
      cases h
      obtain ⟨rfl, q⟩ := q
      exact ⟨_, _, rfl, q⟩
    · cases h
  · cases h
def isTupE : Expr → Bool
  | .Tuple _ _ _ => true
  | _ => false
/-- what a for walks, its target known -/
def trFor (tE : Ctx → Expr → Option DE) (tI : Ctx → Expr → Option DI) (C : Ctx) (tg it : Expr) : Option DI := match isItems it with
  | some (o, ap, p) => if isTupE tg && notCall o && ap.endLine == p.line then (tE C o).map iItems else none
  | none => match isEnum C it with
    | some a => if isTupE tg && notStar a then (tE C a).map iEnumP else none
    | none => tI C it
noncomputable def trLc (C : Ctx) (m : Bool) (scope : Scope) (tE : Ctx → Expr → Option DE) (tT : Ctx → Expr → Option DT) (tI : Ctx → Expr → Option DI) (tG : Ctx → Expr → Option (DG × List Nat)) (elt tg it : Expr) (ifs : List Expr) : Option DE :=
  if blkC C.N C.sc scope (ownOf C.N scope.names) && notSet it then
    match trFor tE tI C tg it, tG (C.blk scope) tg, tE (C.blk scope) elt with
    | some I, some (G, js), some A =>
      if js.all fun j => ((ownOf C.N scope.names).map (·.2)).contains j then
        match ifs with
        | [] => some (dLc m ((ownOf C.N scope.names).map (·.2)) I G tYes A)
        | [c] => (tT (C.blk scope) c).map fun T => dLc m ((ownOf C.N scope.names).map (·.2)) I G T A
        | _ => none
      else none
    | _, _, _ => none
  else none
def isOneGen : List Comprehension → Option (Expr × Expr × List Expr)
  | [⟨tg, it, ifs, a⟩] => if a = 0 then some (tg, it, ifs) else none
  | _ => none
def isRng (C : Ctx) : Expr → Option (List Expr)
  | .Call (.Name x _) as [] _ => if x = "range" ∧ C.isB x then some as else none
  | _ => none

def isRev (C : Ctx) : Expr → Option Expr
  | .Call (.Name x _) [a] [] _ => if x = "reversed" ∧ C.isB x then some a else none
  | _ => none
theorem isRev_eq {C : Ctx} {e a : Expr} (h : isRev C e = some a) : ∃ p pos, e = .Call (.Name "reversed" p) [a] [] pos ∧ C.isB "reversed" = true := by
  unfold isRev at h
  split at h
  · split at h
    · rename_i q
      cases h
      obtain ⟨rfl, q⟩ := q
      exact ⟨_, _, rfl, q⟩
    · cases h
  · cases h
abbrev FE := Ctx → Expr → Option DE
abbrev FT := Ctx → Expr → Option DT
abbrev FI := Ctx → Expr → Option DI
abbrev FG := Ctx → Expr → Option (DG × List Nat)
noncomputable def trE1 (tE : FE) (tT : FT) (tI : FI) (tG : FG) (C : Ctx) (e : Expr) : Option DE := match e with
    | .Name x p => trName C x (C.flag p)
    | .Constant c _ _ => trConst c
    | .BinOp a op b p => match tE C a, tE C b, opSem (C.flag p) op with
      | some A, some B, some g => some (dBin g A B)
      | _, _, _ => none
    | .UnaryOp op a _ => match op with
      | .USub => (tE C a).map (dUn opNeg)
      | .Not => (tE C a).map (dUn opNot)
      | _ => none
    | .BoolOp op es _ => match op with
      | .And => trBools (tE C) dAnd es
      | .Or => trBools (tE C) dOr es
    | .Compare a ops bs _ => trCmp (tE C) a ops bs
    | .IfExp t a b _ => match tT C t, tE C a, tE C b with
      | some T, some A, some B => some (dIte T A B)
      | _, _, _ => none
    | .Tuple es _ _ => (trAs (tE C) es).map dTup
    | .List es p => (trAs (tE C) es).map (dLst (C.flag p))
    | .Dict ks vs p => match ks, vs with
      | [], [] => if C.flagI p then some dDctI else some (dDct0 (C.flag p))
      | _, _ => none
    | .Subscript a i p => trSub C (tE C) a i p
    | .Call f as ks p => match ks with
      | [] => match f with
        | .Name x _ => trCallN C (tE C) x as p
        | .Attribute o name ap => trMeth (tE C) o name as ap p
        | _ => none
      | _ => none
    | .ListComp elt gs scope p => match isOneGen gs with
      | some (tg, it, ifs) => trLc C (C.flag p) scope tE tT tI tG elt tg it ifs
      | none => none
    | _ => none
def trT1 (tE : FE) (tT : FT) (C : Ctx) (e : Expr) : Option DT := match e with
    | .UnaryOp op a p => match op with
      | .Not => (tT C a).map tNot
      | _ => none
    | .BoolOp op es _ => match op with
      | .And => trTests (tT C) tAnd es
      | .Or => trTests (tT C) tOr es
    | .Compare a ops bs _ => (trCmp (tE C) a ops bs).map tVal
    | .Name x p => (tE C (.Name x p)).map tTru
    | .Call f as ks p => (tE C (.Call f as ks p)).map tVal
    | .Subscript a i p => (tE C (.Subscript a i p)).map tVal
    | _ => none
def trI1 (tE : FE) (C : Ctx) (e : Expr) : Option DI := match isRng C e with
    | some [a] => if notStar a then (tE C a).map iRng1 else none
    | some [a, b] => if notStar a && notStar b then match tE C a, tE C b with
      | some A, some B => some (iRng2 A B)
      | _, _ => none
      else none
    | some _ => none
    | none => match isRev C e with
      | some a => if notStar a then (tE C a).map iRev else none
      | none => (tE C e).map iSeq
def trG1 (tE : FE) (tG : FG) (C : Ctx) (e : Expr) : Option (DG × List Nat) := match e with
    | .Name x _ => match ixOf x C.N with
      | some i => if C.loc x then some (gName i, [i]) else none
      | none => none
    | .Tuple es _ _ => match trTuple (tG C) es with
      | some (Gs, js) => some (gTup Gs, js)
      | none => none
    | .Subscript o i _ => if notSlice i then match tE C o, tE C i with
      | some O, some I => some (gSub O I, [])
      | _, _ => none
      else none
    | _ => none
mutual
noncomputable def trE : Nat → FE
  | 0 => fun _ _ => none
  | n + 1 => trE1 (trE n) (trT n) (trI n) (trG n)
noncomputable def trT : Nat → FT
  | 0 => fun _ _ => none
  | n + 1 => trT1 (trE n) (trT n)
noncomputable def trI : Nat → FI
  | 0 => fun _ _ => none
  | n + 1 => trI1 (trE n)
noncomputable def trG : Nat → FG
  | 0 => fun _ _ => none
  | n + 1 => trG1 (trE n) (trG n)
end
def isLcAsg (C : Ctx) (pos : Pos) : List Expr → Expr → Option (Str × Expr × Expr × Expr × List Expr × Scope × Pos)
  | [.Name y py], .ListComp elt gs scope p => match isOneGen gs with
    | some (tg, it, ifs) => if py.line == p.line && !(scope.names.any fun (n, k) => n == y && (k == .local || k == .cell)) then some (y, elt, tg, it, ifs, scope, p) else none
    | none => none
  | _, _ => none
def isLocal (C : Ctx) (x : Str) : Bool := match C.sc.names.lookup x with
  | some .local => true
  | _ => false
def okAsg : List Expr → Expr → Bool
  | [.Name _ _], e => notComp e
  | [.Tuple _ _ _], e => notComp e && notDisp e
  | [.Subscript _ _ _], e => notComp e
  | _, _ => false
abbrev FS := Ctx → Stmt → Option DS
abbrev FSs := Ctx → List Stmt → Option DS
noncomputable def trS1 (tE : FE) (tT : FT) (tI : FI) (tG : FG) (tSs : FSs) (C : Ctx) (s : Stmt) : Option DS := match s with
    | .Return v _ => match v with
      | none => some sRetN
      | some e => (tE C e).map sRet
    | .Expr e _ => match e with
      | .Constant (.str _) _ _ => some sPass
      | .Call f as ks p => (tE C (.Call f as ks p)).map sExpr
      | _ => none
    | .Assign tgs e pos => match isLcAsg C pos tgs e with
      | some (y, elt, tg, it, ifs, scope, p) => match trLc C (C.flag p) scope tE tT tI tG elt tg it ifs, ixOf y C.N with
        | some A, some i => if isLocal C y then some (sAsg A (gName i)) else if C.loc y then some (sAsg A (gName i)) else none
        | _, _ => none
      | none => if okAsg tgs e then match tE C e, tG C (tgs.headD e) with
        | some A, some (G, _) => some (sAsg A G)
        | _, _ => none
        else none
    | .If t a b _ => match tT C t, tSs C a, tSs C b with
      | some T, some A, some B => some (sIf T A B)
      | _, _, _ => none
    | .For tg it a b _ => match b with
      | [] => if notSet it then match trFor tE tI C tg it, tG C tg, tSs C a with
        | some I, some (G, _), some A => some (sFor I G A)
        | _, _, _ => none
        else none
      | _ => none
    | .While t a b _ => match b with
      | [] => match tT C t, tSs C a with
        | some T, some A => some (sWhile T A)
        | _, _ => none
      | _ => none
    | .Pass _ => some sPass
    | .Break _ => some sBreak
    | .Continue _ => some sCont
    | _ => none
/-- a for ahead of which a name's place becomes a value: flagged by (line, column, 1000000 + slot) -/
def frzOf (C : Ctx) : Stmt → Option Nat
  | .For _ _ _ _ p => (List.range C.N.length).find? fun i => C.mu.contains (p.line, p.col, 1000000 + i)
  | _ => none
def preF (C : Ctx) (s : Stmt) (D : DS) : DS := match frzOf C s with
  | some i => sSeq (sFrz i) D
  | none => D
theorem preF_ok {X : Cx} {C : Ctx} {s : Stmt} {ss : List Stmt} {D : DS} (h : SndSs X ss D) : SndSs X ss (preF C s D) := by
  unfold preF
  split
  · exact sss_frz h
  · exact h
def trSs1 (tS : FS) (tSs : FSs) (C : Ctx) (ss : List Stmt) : Option DS := match ss with
    | [] => some sPass
    | [s] => (tS C s).map (preF C s)
    | s :: r => match tS C s, tSs C r with
      | some A, some B => some (preF C s (sSeq A B))
      | _, _ => none
mutual
noncomputable def trS : Nat → FS
  | 0 => fun _ _ => none
  | n + 1 => trS1 (trE n) (trT n) (trI n) (trG n) (trSs n)
noncomputable def trSs : Nat → FSs
  | 0 => fun _ _ => none
  | n + 1 => trSs1 (trS n) (trSs n)
end

/-! ### it is right -/
/-- the defs keep their promises -/
def GOk (X : Cx) (G : List (Str × Nat × FSem)) (k : Nat) : Prop := ∀ x np S, G.lookup x = some (np, S) → ∃ f fd ps, FnOk X.prog X.w X.K X.mg X.base CX0 k f fd ps (spOf X.K np S) ∧ X.mg x = some (.ref f) ∧ PySem.W.keepIn X.K (.ref f) = true ∧ Binds X.K fd ps []
/-- the module's constants -/
def COk (X : Cx) (cs : List (Str × PV)) : Prop := ∀ x v, cs.lookup x = some v → ∃ w u, X.mg x = some u ∧ RelV w u ∧ ∀ F ρ n, RelP X.K F ρ n v w
structure Good (X : Cx) (C : Ctx) (k : Nat) : Prop where
  x : GoodX X C.N C.sc C.fn k
  g : GOk X C.G k
  b : ∀ n, C.bs.contains n = true → X.mg n = none
  kd : X.env.scope.kind = .function
  c : COk X C.cs
section
variable {X : Cx} {C : Ctx} {k : Nat}
theorem Good.gl (g : Good X C k) {x : Str} (h : C.isGl x = true) : Gl X x := by
  unfold Ctx.isGl at h
  show X.env.scope.names.lookup x = some .globalImplicit
  rw [g.x.hsc]
  split at h
  · assumption
  · cases h
theorem Good.bi (g : Good X C k) {x : Str} (h : C.isB x = true) : Gl X x ∧ X.mg x = none := by
  unfold Ctx.isB at h
  rw [Bool.and_eq_true] at h
  exact ⟨g.gl h.1, g.b x h.2⟩
theorem Good.vis (g : Good X C k) {x : Str} (h : C.vis x = true) : Vis X.env.scope x := by
  unfold Ctx.vis at h
  unfold Vis
  rw [g.x.hsc]
  split at h
  · exact .inl (by assumption)
  · exact .inr (.inl (by assumption))
  · exact .inr (.inr (by assumption))
  · cases h
theorem Good.loc (g : Good X C k) {x : Str} (h : C.loc x = true) : L2.Loc X.env.scope x ∧ (X.fn x = true ∨ X.env.scope.names.lookup x = some .local) := by
  unfold Ctx.loc at h
  unfold L2.Loc
  rw [g.x.hsc, g.x.hfn]
  split at h
  · exact ⟨.inl (by assumption), .inr (by assumption)⟩
  · exact ⟨.inr (by assumption), .inl h⟩
  · cases h
theorem Good.blk (g : Good X C k) (scope : Scope) (hk : scope.kind = .function) : Blk X scope fun Y => Good Y (C.blk scope) k := fun s H A cl fp => by
  refine ⟨⟨g.x.hN, ?_, rfl, g.x.calm, g.x.nd, rfl, g.x.room⟩, g.g, g.b, hk, g.c⟩
  show relabel scope X.env = relS scope C.sc
  rw [← g.x.hsc]
  rfl
theorem starEach_cons {e : Expr} {es : List Expr} {env : PySem.Env} (h : notStar e = true) : starEach (e :: es) env = (false, eval e env) :: starEach es env := by
  cases e <;> first | rfl | cases h
theorem starEach_plain {env : PySem.Env} {pos : Pos} : ∀ {es : List Expr}, es.all notStar = true → (backTo pos (starEach es env)).any (·.1) = false ∧ (starEach es env).length = es.length
  | [], _ => by
    have e : starEach [] env = [] := rfl
    rw [e]; exact ⟨rfl, rfl⟩
  | e :: es, h => by
    rw [List.all_cons, Bool.and_eq_true] at h
    obtain ⟨h1, h2⟩ := starEach_plain (env := env) (pos := pos) h.2
    rw [starEach_cons h.1]
    refine ⟨?_, by rw [List.length_cons, List.length_cons, h2]⟩
    show (false || (backTo pos (starEach es env)).any (·.1)) = false
    rw [h1]; rfl
theorem trAs_plain {f : Expr → Option DE} : ∀ {es : List Expr} {D : DA}, trAs f es = some D → es.all notStar = true
  | [], _, _ => rfl
  | e :: r, D, h => by
    rw [trAs] at h
    split at h
    · rename_i q
      split at h
      · rename_i A D' _ h2
        rw [List.all_cons, q, trAs_plain h2]; rfl
      · cases h
    · cases h
theorem trAs_ok {f : Expr → Option DE} (hf : ∀ e A, f e = some A → SndE X e A) : ∀ {es : List Expr} {D : DA}, trAs f es = some D → SndA X es D
  | [], _, h => by rw [trAs] at h; cases h; exact snd_anil
  | e :: r, D, h => by
    rw [trAs] at h
    split at h
    · rename_i q
      split at h
      · rename_i A D' h1 h2
        cases h
        exact snd_acons (starEach_cons q) (hf e A h1) (trAs_ok hf h2)
      · cases h
    · cases h
theorem trAs_len {f : Expr → Option DE} : ∀ {es : List Expr} {D : DA}, trAs f es = some D → ∀ env st xs st', D env st = some (xs, st') → xs.length = es.length
  | [], _, h, env, st, xs, st', h2 => by rw [trAs] at h; cases h; cases h2; rfl
  | e :: r, D, h, env, st, xs, st', h2 => by
    rw [trAs] at h
    split at h
    · split at h
      · rename_i A D' _ hd
        cases h
        obtain ⟨x, s1, _, h2⟩ := mb_eq h2
        obtain ⟨ys, s2, h3, h2⟩ := mb_eq h2
        cases h2
        rw [List.length_cons, List.length_cons, trAs_len hd _ _ _ _ h3]
      · cases h
    · cases h
theorem opSem_ok {m : Bool} {op : Operator} {g : PV → PV → M PV} (h : opSem m op = some g) : SndO X (binaryOp op) g := by
  cases op <;> cases h
  · exact so_add
  · exact so_sub
  · exact so_mul
  · exact so_mod
  · exact so_pow
  · exact so_div
theorem cmpSem_ok (g : Good X C k) {op : CmpOp} {f : PV → PV → M PV} (h : cmpSem op = some f) : SndO X (compareOp op) f := by
  have hu : X.A.units + 65 < cLine := by have := g.x.room.un; omega
  cases op <;> cases h
  · exact so_eq hu
  · exact so_ne hu
  · exact so_lt hu
  · exact so_le
  · exact so_gt
  · exact so_ge
  · exact so_in hu
  · exact so_notIn hu
theorem isNone_eq {b : Expr} (h : isNone b = true) : ∃ j p, b = .Constant .none j p := by
  unfold isNone at h
  split at h
  · exact ⟨_, _, rfl⟩
  · cases h
theorem isNeg_eq {op : CmpOp} {neg : Bool} (h : isNeg op = some neg) : op = isOp neg := by
  cases op <;> cases h <;> rfl
theorem noMark {op : CmpOp} {b : Expr} (h : notSet b = true) : behindInMarks op b = false := by
  cases b <;> first | rfl | cases h
theorem trCmp_ok (g : Good X C k) {f : Expr → Option DE} (hf : ∀ e A, f e = some A → SndE X e A) {a : Expr} {ops : List CmpOp} {bs : List Expr} {pos : Pos} {D : DE} (h : trCmp f a ops bs = some D) : SndE X (.Compare a ops bs pos) D ∧ SndT X (.Compare a ops bs pos) (tVal D) := by
  unfold trCmp at h
  split at h
  · rename_i op b
    split at h
    · rename_i neg hn
      split at h
      · rename_i hb
        obtain ⟨j, p, rfl⟩ := isNone_eq hb
        cases isNeg_eq hn
        cases ha : f a with
        | none => rw [ha] at h; cases h
        | some A =>
          rw [ha] at h; cases h
          exact ⟨snd_isN (hf a A ha), tst_isN (hf a A ha)⟩
      · cases h
    · split at h
      · rename_i hs
        split at h
        · rename_i A B q ha hb hq
          cases h
          exact ⟨snd_cmp (cmpSem_ok g hq) (hf a A ha) (hf b B hb) (noMark hs), tst_cmp (cmpSem_ok g hq) (hf a A ha) (hf b B hb) (noMark hs)⟩
        · cases h
      · cases h
  · rename_i op op' b c
    split at h
    · rename_i hs
      split at h
      · rename_i A B D' q q' ha hb hc hq hq'
        cases h
        have hm : lastMarks [op, op'] [b, c] = false := noMark (op := op') hs
        exact ⟨snd_chain (cmpSem_ok g hq) (cmpSem_ok g hq') (hf a A ha) (hf b B hb) (hf c D' hc) hm, tst_chain (cmpSem_ok g hq) (cmpSem_ok g hq') (hf a A ha) (hf b B hb) (hf c D' hc) hm⟩
      · cases h
    · cases h
  · cases h
theorem trBools_and {f : Expr → Option DE} (hf : ∀ e A, f e = some A → SndE X e A) {pos : Pos} : ∀ {es : List Expr} {D : DE}, trBools f dAnd es = some D → SndE X (.BoolOp .And es pos) D
  | [], _, h => by cases h
  | [e], D, h => snd_one (hf e D h)
  | e :: e2 :: r, D, h => by
    rw [trBools] at h
    split at h
    · rename_i A D' h1 h2
      cases h
      exact snd_and (hf e A h1) (trBools_and hf h2)
    · cases h
theorem trBools_or {f : Expr → Option DE} (hf : ∀ e A, f e = some A → SndE X e A) {pos : Pos} : ∀ {es : List Expr} {D : DE}, trBools f dOr es = some D → SndE X (.BoolOp .Or es pos) D
  | [], _, h => by cases h
  | [e], D, h => snd_one (hf e D h)
  | e :: e2 :: r, D, h => by
    rw [trBools] at h
    split at h
    · rename_i A D' h1 h2
      cases h
      exact snd_or (hf e A h1) (trBools_or hf h2)
    · cases h
theorem trTests_and {f : Expr → Option DT} (hf : ∀ e A, f e = some A → SndT X e A) {pos : Pos} : ∀ {es : List Expr} {D : DT}, trTests f tAnd es = some D → SndW X (.BoolOp .And es pos) D
  | [], _, h => by cases h
  | [e], D, h => w_and1 (hf e D h)
  | e :: e2 :: r, D, h => by
    rw [trTests] at h
    split at h
    · rename_i A D' h1 h2
      cases h
      exact w_and (hf e A h1) (trTests_and hf h2)
    · cases h
theorem trTests_or {f : Expr → Option DT} (hf : ∀ e A, f e = some A → SndT X e A) {pos : Pos} : ∀ {es : List Expr} {D : DT}, trTests f tOr es = some D → SndW X (.BoolOp .Or es pos) D
  | [], _, h => by cases h
  | [e], D, h => w_or1 (hf e D h)
  | e :: e2 :: r, D, h => by
    rw [trTests] at h
    split at h
    · rename_i A D' h1 h2
      cases h
      exact w_or (hf e A h1) (trTests_or hf h2)
    · cases h
theorem trO_ok {f : Expr → Option DE} (hf : ∀ e A, f e = some A → SndE X e A) {o : Option Expr} {D : DO} (h : trO f o = some D) : SndOp X o D := by
  cases o with
  | none => cases h; exact sop_none
  | some e =>
    rw [trO] at h
    cases ha : f e with
    | none => rw [ha] at h; cases h
    | some A => rw [ha] at h; cases h; exact sop_some (hf e A ha)
theorem plainIx {i : Expr} (h : notSlice i = true) : PlainIx i := by
  intro o v
  cases i <;> first | rfl | cases h
theorem trSub_ok (hu : X.A.units + 65 < cLine) {f : Expr → Option DE} (hf : ∀ e A, f e = some A → SndE X e A) {a i : Expr} {pos : Pos} {D : DE} (h : trSub C f a i pos = some D) : SndE X (.Subscript a i pos) D := by
  unfold trSub at h
  split at h
  · obtain ⟨A, h1, rfl⟩ := mapS h
    exact snd_rvT (hf _ _ h1)
  · split at h
    · rename_i A L U h1 h2 h3
      cases h
      exact snd_sl (hf _ _ h1) (trO_ok hf h2) (trO_ok hf h3)
    · cases h
  · split at h
    · rename_i hs
      split at h
      · rename_i A I h1 h2
        cases h
        exact snd_ix (plainIx hs) (hf _ _ h1) (hf _ _ h2) (snd_opIx hu)
      · cases h
    · cases h
theorem bi_ok (g : Good X C k) {b : BI} {m : Bool} {e : Expr} {es : List Expr} {D : DA} {p pos : Pos} (hg : Gl X b.nm) (hm : X.mg b.nm = none) (ha : SndA X (e :: es) D) (he : starEach (e :: es) X.env = (false, eval e X.env) :: starEach es X.env) (hpl : (backTo pos (starEach es X.env)).any (·.1) = false) :
    SndE X (.Call (.Name b.nm p) (e :: es) [] pos) (dApp (b.sem m) D) := by
  cases b
  · exact snd_callB sc_len hg hm (by decide +kernel) ha (by decide +kernel) (by decide +kernel) he hpl
  · exact snd_callB sc_abs hg hm (by decide +kernel) ha (by decide +kernel) (by decide +kernel) he hpl
  · exact snd_callTy sc_int hg hm (by decide +kernel) ha (by decide +kernel) (by decide +kernel) he hpl
  · exact snd_callB (sc_max g.x.calm) hg hm (by decide +kernel) ha (by decide +kernel) (by decide +kernel) he hpl
  · exact snd_callB (sc_min g.x.calm) hg hm (by decide +kernel) ha (by decide +kernel) (by decide +kernel) he hpl
  · exact snd_callTy sc_tuple hg hm (by decide +kernel) ha (by decide +kernel) (by decide +kernel) he hpl
  · exact snd_callTy sc_list hg hm (by decide +kernel) ha (by decide +kernel) (by decide +kernel) he hpl
  · exact snd_callB (sc_sorted g.x.calm (by have := g.x.room.un; omega)) hg hm (by decide +kernel) ha (by decide +kernel) (by decide +kernel) he hpl
  · exact snd_callB (sc_sum g.x.calm) hg hm (by decide +kernel) ha (by decide +kernel) (by decide +kernel) he hpl
  · exact snd_callB (sc_any g.x.calm) hg hm (by decide +kernel) ha (by decide +kernel) (by decide +kernel) he hpl
theorem isIsi_eq {es : List Expr} {a : Expr} {t : Str} (h : isIsi es = some (a, t)) : ∃ p, es = [a, .Name t p] := by
  unfold isIsi at h
  split at h
  · cases h; exact ⟨_, rfl⟩
  · cases h
theorem trCallN_ok (g : Good X C k) {f : Expr → Option DE} (hf : ∀ e A, f e = some A → SndE X e A) {x : Str} {as : List Expr} {p pos : Pos} {D : DE} (h : trCallN C f x as pos = some D) : SndE X (.Call (.Name x p) as [] pos) D := by
  unfold trCallN at h
  split at h
  · cases h
  · rename_i e r
    split at h
    · rename_i hx
      split at h
      · rename_i hb
        split at h
        · rename_i a t hi
          split at h
          · rename_i hs
            rw [Bool.and_eq_true] at hs
            split at h
            · rename_i T A hT hA
              cases h
              obtain ⟨p2, hi⟩ := isIsi_eq hi
              rw [hi]
              cases BTy.of_name hT
              obtain ⟨g1, g2⟩ := g.bi hb
              obtain ⟨g3, g4⟩ := g.bi hs.2
              exact snd_isi hx g1 g2 g3 g4 (hf a A hA) (starEach_cons hs.1)
            · cases h
          · cases h
        · cases h
      · cases h
    · split at h
      · rename_i hb
        split at h
        · rename_i a ha
          split at h
          · rename_i hs
            rw [Bool.and_eq_true] at hs
            obtain ⟨A, h1, rfl⟩ := mapS h
            obtain ⟨rfl, p2, pos2, he⟩ := isSet_eq ha
            obtain ⟨g1, g2⟩ := g.bi hb
            obtain ⟨g3, g4⟩ := g.bi hs.1
            rw [he]
            exact snd_sortedSet g.x.calm (by have := g.x.room.un; omega) g1 g2 g3 g4 (snd_acons (starEach_cons hs.2) (hf _ _ h1) snd_anil) (starEach_cons hs.2)
          · cases h
        split at h
        · rename_i b D' h1 h2
          cases h
          cases BI.of_nm h1
          obtain ⟨g1, g2⟩ := g.bi hb
          have hp := trAs_plain h2
          rw [List.all_cons, Bool.and_eq_true] at hp
          exact bi_ok g g1 g2 (trAs_ok hf h2) (starEach_cons hp.1) (starEach_plain hp.2).1
        · cases h
      · split at h
        · rename_i hb
          rw [Bool.and_eq_true] at hb
          split at h
          · rename_i np S D' h1 h2
            split at h
            · rename_i hnp
              cases h
              obtain ⟨fa, fd, ps, h3, h4, h5, h6⟩ := g.g x np S h1
              have hp := trAs_plain h2
              rw [List.all_cons, Bool.and_eq_true] at hp
              have hd : (x == ("__debug__" : Str)) = false := by
                have := hb.2
                cases q : x == ("__debug__" : Str) with
                | true => rw [q] at this; cases this
                | false => rfl
              exact snd_call h3 g.x.room (g.gl hb.1) h4 h5 h6 hnp (trAs_ok hf h2) (fun env st xs st' z => by rw [trAs_len h2 env st xs st' z]; exact hnp) hd (starEach_cons hp.1) (starEach_plain hp.2).1
            · cases h
          · cases h
        · cases h
theorem attrBase {o : Expr} {name : Str} {env : PySem.Env} (h : notCall o = true) : attributeBase o name env (eval o env) = eval o env := by
  cases o <;> first | rfl | cases h
theorem trMeth_ok (g : Good X C k) {f : Expr → Option DE} (hf : ∀ e A, f e = some A → SndE X e A) {o : Expr} {name : Str} {as : List Expr} {ap pos : Pos} {D : DE} (h : trMeth f o name as ap pos = some D) : SndE X (.Call (.Attribute o name ap) as [] pos) D := by
  unfold trMeth at h
  split at h
  · rename_i hn
    split at h
    · rename_i hc
      rw [Bool.and_eq_true] at hc
      unfold trGet at h
      split at h
      · rename_i e v
        split at h
        · rename_i hs
          rw [Bool.and_eq_true] at hs
          split at h
          · rename_i O K V h1 h2 h3
            cases h
            rw [hn]
            refine snd_get2 (by have := g.x.room.un; omega) (hf _ _ h1) (hf _ _ h2) (hf _ _ h3) ⟨attrBase hc.1, ?_, hc.2, ?_⟩
            · rw [starEach_cons hs.1, starEach_cons hs.2]; rfl
            · rw [starEach_cons hs.1, starEach_cons hs.2]; rfl
          · cases h
        · cases h
      · rename_i e
        split at h
        · rename_i hs
          split at h
          · rename_i O K h1 h2
            cases h
            rw [hn]
            refine snd_get1 (by have := g.x.room.un; omega) (hf _ _ h1) (hf _ _ h2) ⟨attrBase hc.1, ?_, hc.2, ?_⟩
            · rw [starEach_cons hs]; rfl
            · rw [starEach_cons hs]; rfl
          · cases h
        · cases h
      · cases h
    · cases h
  split at h
  · rename_i hc
    rw [Bool.and_eq_true] at hc
    split at h
    · rename_i m O D' h1 h2 h3
      cases h
      unfold LM.of at h1
      split at h1
      · rename_i q
        cases h1
        obtain ⟨rfl, hl⟩ := q
        cases as with
        | nil => cases hl
        | cons e r =>
          cases r with
          | cons _ _ => cases hl
          | nil =>
            have hp := trAs_plain h3
            rw [List.all_cons, Bool.and_eq_true] at hp
            refine snd_met PySem.F.slot_list_append PySem.F.type_list_append sm_append (hf _ _ h2) (trAs_ok hf h3) (attrBase hc.1) ?_ hc.2 (starEach_cons hp.1) (starEach_plain hp.2).1
            rw [starEach_cons hp.1]
            rfl
      · split at h1
        · rename_i q
          cases h1
          obtain ⟨rfl, hl⟩ := q
          cases as with
          | cons _ _ => cases hl
          | nil =>
            rw [trAs] at h3; cases h3
            exact snd_met0 PySem.F.slot_list_pop PySem.F.type_list_pop sm_pop (hf _ _ h2) (attrBase hc.1) hc.2
        · split at h1
          · rename_i q
            cases h1
            obtain ⟨rfl, hl⟩ := q
            cases as with
            | cons _ _ => cases hl
            | nil =>
              rw [trAs] at h3; cases h3
              exact snd_met0 PySem.F.slot_list_reverse PySem.F.type_list_reverse sm_reverse (hf _ _ h2) (attrBase hc.1) hc.2
          · split at h1
            · rename_i q
              cases h1
              obtain ⟨rfl, hl⟩ := q
              cases as with
              | nil => cases hl
              | cons e r =>
                cases r with
                | cons _ _ => cases hl
                | nil =>
                  have hp := trAs_plain h3
                  rw [List.all_cons, Bool.and_eq_true] at hp
                  refine snd_met PySem.F.slot_list_pop PySem.F.type_list_pop sm_popAt (hf _ _ h2) (trAs_ok hf h3) (attrBase hc.1) ?_ hc.2 (starEach_cons hp.1) (starEach_plain hp.2).1
                  rw [starEach_cons hp.1]
                  rfl
            · split at h1
              · rename_i q
                cases h1
                obtain ⟨rfl, hl⟩ := q
                cases as with
                | nil => cases hl
                | cons e r =>
                  cases r with
                  | nil => cases hl
                  | cons e2 r =>
                    cases r with
                    | cons _ _ => cases hl
                    | nil =>
                      have hp := trAs_plain h3
                      rw [List.all_cons, List.all_cons, Bool.and_eq_true, Bool.and_eq_true] at hp
                      refine snd_met PySem.F.slot_list_insert PySem.F.type_list_insert sm_insert (hf _ _ h2) (trAs_ok hf h3) (attrBase hc.1) ?_ hc.2 (starEach_cons hp.1) (starEach_plain (by rw [List.all_cons, hp.2.1]; rfl)).1
                      rw [starEach_cons hp.1, starEach_cons hp.2.1]
                      rfl
              · split at h1
                · rename_i q
                  cases h1
                  obtain ⟨rfl, hl⟩ := q
                  cases as with
                  | nil => cases hl
                  | cons e r =>
                    cases r with
                    | cons _ _ => cases hl
                    | nil =>
                      have hp := trAs_plain h3
                      rw [List.all_cons, Bool.and_eq_true] at hp
                      refine snd_met PySem.F.slot_list_extend PySem.F.type_list_extend sm_extend (hf _ _ h2) (trAs_ok hf h3) (attrBase hc.1) ?_ hc.2 (starEach_cons hp.1) (starEach_plain hp.2).1
                      rw [starEach_cons hp.1]
                      rfl
                · cases h1
    · cases h
  · cases h
theorem foldSet {it : Expr} {env : PySem.Env} (h : notSet it = true) : ∀ x, foldedSetIterable it env x = pure x := by
  intro x
  cases it <;> first | rfl | cases h
theorem isOneGen_eq {gs : List Comprehension} {tg it : Expr} {ifs : List Expr} (h : isOneGen gs = some (tg, it, ifs)) : gs = [⟨tg, it, ifs, 0⟩] := by
  unfold isOneGen at h
  split at h
  · split at h
    · rename_i q
      cases h
      rw [q]
    · cases h
  · cases h
theorem trFor_ok (g : Good X C k) {tE : Ctx → Expr → Option DE} {tI : Ctx → Expr → Option DI} (hE : ∀ (Y : Cx) (C' : Ctx) e A, Good Y C' k → tE C' e = some A → SndE Y e A) (hI : ∀ (Y : Cx) (C' : Ctx) tg e A, Good Y C' k → tI C' e = some A → SndI Y tg e A) {tg it : Expr} {D : DI} (h : trFor tE tI C tg it = some D) : SndI X tg it D := by
  unfold trFor at h
  split at h
  · rename_i o ap p hi
    split at h
    · rename_i hc
      rw [Bool.and_eq_true, Bool.and_eq_true] at hc
      obtain ⟨A, h1, rfl⟩ := mapS h
      rw [isItems_eq hi]
      cases tg with
      | Tuple es kk tp => exact si_items (attrBase hc.1.2) hc.2 (hE X C o A g h1)
      | _ => cases hc.1.1
    · cases h
  · split at h
    · rename_i a he
      split at h
      · rename_i hs
        rw [Bool.and_eq_true] at hs
        obtain ⟨A, h1, rfl⟩ := mapS h
        obtain ⟨p, p2, rfl, hb⟩ := isEnum_eq he
        obtain ⟨g1, g2⟩ := g.bi hb
        cases tg with
        | Tuple es kk tp => exact si_enum g1 g2 (by rw [starEach_cons hs.2]; rfl) (hE X C a A g h1)
        | _ => cases hs.1
      · cases h
    · exact hI X C tg it D g h
/-- what a comprehension's pieces are -/
theorem trLc_ok (g : Good X C k) {tE : Ctx → Expr → Option DE} {tT : Ctx → Expr → Option DT} {tI : Ctx → Expr → Option DI} {tG : Ctx → Expr → Option (DG × List Nat)}
    (hE : ∀ (Y : Cx) (C' : Ctx) e A, Good Y C' k → tE C' e = some A → SndE Y e A) (hT : ∀ (Y : Cx) (C' : Ctx) e A, Good Y C' k → tT C' e = some A → SndT Y e A) (hI : ∀ (Y : Cx) (C' : Ctx) tg e A, Good Y C' k → tI C' e = some A → SndI Y tg e A) (hG : ∀ (Y : Cx) (C' : Ctx) e A js, Good Y C' k → tG C' e = some (A, js) → SndG Y e A js)
    {m : Bool} {scope : Scope} {elt tg it : Expr} {ifs : List Expr} {D : DE} (h : trLc C m scope tE tT tI tG elt tg it ifs = some D) :
    ∃ (own : List (Str × Nat)) (I : DI) (G : DG) (js : List Nat) (T : DT) (A : DE), D = dLc m (own.map (·.2)) I G T A ∧ BlkOk X.N X.env.scope scope own ∧ notSet it = true ∧ SndI X tg it I ∧ (Blk X scope fun Y => SndG Y tg G js) ∧ (∀ j ∈ js, j ∈ own.map (·.2)) ∧ Ifs X scope ifs T ∧ (Blk X scope fun Y => SndE Y elt A) := by
  unfold trLc at h
  split at h
  · rename_i hb
    rw [Bool.and_eq_true] at hb
    have hB : BlkOk X.N X.env.scope scope (ownOf C.N scope.names) := by
      rw [g.x.hN, g.x.hsc]; exact blkOk_by hb.1
    split at h
    · rename_i I G js A h1 h2 h3
      split at h
      · rename_i hj
        rw [List.all_eq_true] at hj
        have hjs : ∀ j ∈ js, j ∈ (ownOf C.N scope.names).map (·.2) := fun j z => List.contains_iff_mem.mp (hj j z)
        split at h
        · cases h
          exact ⟨_, I, G, js, tYes, A, rfl, hB, hb.2, trFor_ok g hE hI h1, fun s H B cl fp => hG _ _ tg G js (g.blk scope hB.kind s H B cl fp) h2, hjs, .nil, fun s H B cl fp => hE _ _ elt A (g.blk scope hB.kind s H B cl fp) h3⟩
        · rename_i c
          cases hc : tT (C.blk scope) c with
          | none => rw [hc] at h; cases h
          | some T =>
            rw [hc] at h; cases h
            exact ⟨_, I, G, js, T, A, rfl, hB, hb.2, trFor_ok g hE hI h1, fun s H B cl fp => hG _ _ tg G js (g.blk scope hB.kind s H B cl fp) h2, hjs, .one fun s H B cl fp => hT _ _ c T (g.blk scope hB.kind s H B cl fp) hc, fun s H B cl fp => hE _ _ elt A (g.blk scope hB.kind s H B cl fp) h3⟩
        · cases h
      · cases h
    · cases h
  · cases h
theorem isRng_eq {e : Expr} {as : List Expr} (h : isRng C e = some as) : ∃ p p2, e = .Call (.Name "range" p) as [] p2 ∧ C.isB "range" = true := by
  unfold isRng at h
  split at h
  · split at h
    · rename_i q
      cases h
      obtain ⟨rfl, q⟩ := q
      exact ⟨_, _, rfl, q⟩
    · cases h
  · cases h
theorem assignEach_cons {e : Expr} {es : List Expr} {env : PySem.Env} (h : notStar e = true) : assignEach (e :: es) env = (false, assign e env) :: assignEach es env := by
  cases e <;> first | rfl | cases h
theorem trTuple_ok {f : Expr → Option (DG × List Nat)} (hf : ∀ e A js, f e = some (A, js) → SndG X e A js) : ∀ {es : List Expr} {Gs : List DG} {js : List Nat}, trTuple f es = some (Gs, js) → SndGs X es (gList Gs) js ∧ (assignEach es X.env).length = Gs.length ∧ (assignEach es X.env).findIdx? (·.1) = none
  | [], _, _, h => by
    rw [trTuple] at h; cases h
    exact ⟨sgs_nil, rfl, rfl⟩
  | e :: r, Gs, js, h => by
    rw [trTuple] at h
    split at h
    · rename_i q
      split at h
      · rename_i G j1 Gs' j2 h1 h2
        cases h
        obtain ⟨k1, k2, k3⟩ := trTuple_ok hf h2
        refine ⟨sgs_cons (hf e G j1 h1) k1 ?_, ?_, ?_⟩
        · rw [assignEach_cons q]; rfl
        · rw [assignEach_cons q, List.length_cons, List.length_cons, k2]
        · rw [assignEach_cons q, List.findIdx?_cons, k3]; rfl
      · cases h
    · cases h
theorem tv (D : Option DE) {T : DT} (h : D.map tVal = some T) : ∃ A, D = some A ∧ T = tVal A := by
  cases D with
  | none => cases h
  | some A => cases h; exact ⟨A, rfl, rfl⟩
theorem asg_sub {o i : Expr} {pos : Pos} {env : PySem.Env} {v : Value} (h : notSlice i = true) : assign (.Subscript o i pos) env v = (do let ov ← holding [v] (eval o env); let iv ← holding [v, ov] (eval i env); standAt pos; holding [v, ov, iv] (setItem ov iv v); release [v, ov, iv] []) := by
  rw [assign]
  cases i <;> first | rfl | cases h
/-- all four at once -/
theorem tr_ok : ∀ n : Nat, (∀ (X : Cx) (C : Ctx) e A, Good X C k → trE n C e = some A → SndE X e A) ∧ (∀ (X : Cx) (C : Ctx) e A, Good X C k → trT n C e = some A → SndT X e A) ∧ (∀ (X : Cx) (C : Ctx) tg e A, Good X C k → trI n C e = some A → SndI X tg e A) ∧ (∀ (X : Cx) (C : Ctx) e A js, Good X C k → trG n C e = some (A, js) → SndG X e A js)
  | 0 => by
    refine ⟨fun X C e A g h => ?_, fun X C e A g h => ?_, fun X C tg e A g h => ?_, fun X C e A js g h => ?_⟩
    · exact absurd (show none = some _ from h) (by simp)
    · exact absurd (show none = some _ from h) (by simp)
    · exact absurd (show none = some _ from h) (by simp)
    · exact absurd (show none = some _ from h) (by simp)
  | n + 1 => by
    obtain ⟨iE, iT, iI, iG⟩ := tr_ok n
    refine ⟨fun X C e A g h => ?_, fun X C e A g h => ?_, fun X C tg e A g h => ?_, fun X C e A js g h => ?_⟩
    · have hf : ∀ e A, trE n C e = some A → SndE X e A := fun e A => iE X C e A g
      have h : trE1 (trE n) (trT n) (trI n) (trG n) C e = some _ := h
      unfold trE1 at h
      split at h
      · unfold trName at h
        split at h
        · rename_i hi
          split at h
          · rename_i hv
            rw [Bool.and_eq_true, Bool.and_eq_true, Bool.not_eq_true', Bool.not_eq_true'] at hv
            split at h
            · cases h
              exact snd_frz (by rw [g.x.hN]; exact ixOf_get hi) (g.vis hv.1.1) hv.1.2 hv.2
            · cases h
              exact snd_var (by rw [g.x.hN]; exact ixOf_get hi) (g.vis hv.1.1) hv.1.2 hv.2
          · cases h
        · split at h
          · rename_i hv
            rw [Bool.and_eq_true, Bool.and_eq_true, Bool.not_eq_true'] at hv
            obtain ⟨v, h1, rfl⟩ := mapS h
            obtain ⟨w, u, c1, c2, c3⟩ := g.c _ _ h1
            exact snd_glob (g.gl hv.1.1) c1 c2 c3 hv.1.2
          · cases h
      · unfold trConst at h
        split at h
        · cases h; exact snd_int
        · cases h; exact snd_bl
        · cases h; exact snd_str
        · cases h; exact snd_non
        · cases h
      · split at h
        · rename_i A B q h1 h2 h3
          cases h
          exact snd_bin (opSem_ok h3) (hf _ _ h1) (hf _ _ h2)
        · cases h
      · split at h
        · obtain ⟨A, h1, rfl⟩ := mapS h
          exact snd_un su_neg (hf _ _ h1)
        · obtain ⟨A, h1, rfl⟩ := mapS h
          exact snd_notV (hf _ _ h1)
        · cases h
      · split at h
        · exact trBools_and hf h
        · exact trBools_or hf h
      · exact (trCmp_ok g hf h).1
      · split at h
        · rename_i T A B h1 h2 h3
          cases h
          exact snd_ite (iT X C _ _ g h1) (hf _ _ h2) (hf _ _ h3)
        · cases h
      · obtain ⟨A, h1, rfl⟩ := mapS h
        exact snd_tup (trAs_ok hf h1)
      · obtain ⟨A, h1, rfl⟩ := mapS h
        exact snd_lst (trAs_ok hf h1)
      · split at h
        · split at h
          · cases h; exact snd_dctI
          · cases h; exact snd_dct0
        · cases h
      · exact trSub_ok (by have := g.x.room.un; omega) hf h
      · split at h
        · split at h
          · exact trCallN_ok g hf h
          · exact trMeth_ok g hf h
          · cases h
        · cases h
      · split at h
        · rename_i tg it ifs hg
          cases isOneGen_eq hg
          obtain ⟨own, I, G, js, T, A, rfl, h1, h2, h3, h4, h5, h6, h7⟩ := trLc_ok g iE iT iI iG h
          exact snd_lc g.x.calm (by rw [g.x.hN]; exact g.x.nd) h1 (foldSet h2) h3 h4 h5 h6 h7
        · cases h
      · cases h
    · have hf : ∀ e A, trE n C e = some A → SndE X e A := fun e A => iE X C e A g
      have ht : ∀ e A, trT n C e = some A → SndT X e A := fun e A => iT X C e A g
      have h : trT1 (trE n) (trT n) C e = some _ := h
      unfold trT1 at h
      split at h
      · split at h
        · obtain ⟨A, h1, rfl⟩ := mapS h
          exact tst_not (ht _ _ h1)
        · cases h
      · split at h
        · exact (trTests_and ht h).t
        · exact (trTests_or ht h).t
      · obtain ⟨A, h1, rfl⟩ := mapS h
        exact (trCmp_ok g hf h1).2
      · obtain ⟨A, h1, rfl⟩ := mapS h
        exact tst_tru (by intro _; rfl) (hf _ _ h1)
      · obtain ⟨A, h1, rfl⟩ := mapS h
        exact tst_val (by intro _; rfl) (hf _ _ h1)
      · obtain ⟨A, h1, rfl⟩ := mapS h
        exact tst_val (by intro _; rfl) (hf _ _ h1)
      · cases h
    · have hf : ∀ e A, trE n C e = some A → SndE X e A := fun e A => iE X C e A g
      have h : trI1 (trE n) C e = some _ := h
      unfold trI1 at h
      split at h
      · rename_i a hr
        split at h
        · rename_i hs
          obtain ⟨A, h1, rfl⟩ := mapS h
          obtain ⟨p, p2, rfl, hb⟩ := isRng_eq hr
          obtain ⟨g1, g2⟩ := g.bi hb
          exact si_rng1 g1 g2 (hf _ _ h1) (starEach_cons hs)
        · cases h
      · rename_i a b hr
        split at h
        · rename_i hs
          rw [Bool.and_eq_true] at hs
          split at h
          · rename_i A B h1 h2
            cases h
            obtain ⟨p, p2, rfl, hb⟩ := isRng_eq hr
            obtain ⟨g1, g2⟩ := g.bi hb
            exact si_rng2 g1 g2 (hf _ _ h1) (hf _ _ h2) (by rw [starEach_cons hs.1, starEach_cons hs.2]; rfl) (by rw [starEach_cons hs.2]; rfl)
          · cases h
        · cases h
      · cases h
      · split at h
        · rename_i a ha
          split at h
          · rename_i hs
            obtain ⟨A, h1, rfl⟩ := mapS h
            obtain ⟨p, p2, rfl, hb⟩ := isRev_eq ha
            obtain ⟨g1, g2⟩ := g.bi hb
            exact si_rev g1 g2 (starEach_cons hs) (hf _ _ h1)
          · cases h
        · obtain ⟨A, h1, rfl⟩ := mapS h
          exact si_seq (hf _ _ h1)
    · have hf : ∀ e A, trE n C e = some A → SndE X e A := fun e A => iE X C e A g
      have h : trG1 (trE n) (trG n) C e = some _ := h
      unfold trG1 at h
      split at h
      · split at h
        · rename_i hi
          split at h
          · rename_i hl
            cases h
            obtain ⟨l1, l2⟩ := g.loc hl
            exact sg_name (by rw [g.x.hN]; exact g.x.nd) (by rw [g.x.hN]; exact ixOf_get hi) l1 l2
          · cases h
        · cases h
      · split at h
        · rename_i Gs js' ht
          cases h
          obtain ⟨k1, k2, k3⟩ := trTuple_ok (fun e A js => iG X C e A js g) ht
          exact sg_tup g.x.calm k1 k2 k3 rfl
        · cases h
      · split at h
        · rename_i hs
          split at h
          · rename_i O I h1 h2
            cases h
            exact sg_sub (by have := g.x.room.un; omega) (fun v => asg_sub hs) (hf _ _ h1) (hf _ _ h2)
          · cases h
        · cases h
      · cases h
theorem noSwap {e : Expr} {t : Option Expr} {l : Nat} {env : PySem.Env} (h : notComp e = true) : swapsWith e t l env = pure false := by
  cases e <;> first | rfl | cases h
theorem okAsg_ok {tgs : List Expr} {e : Expr} {env : PySem.Env} (h : okAsg tgs e = true) : ∃ tg, tgs = [tg] ∧ notStar tg = true ∧ (∀ l, swapsWithSole [tg] e l env = pure false) ∧ swappedStores [tg] e env = pure none := by
  unfold okAsg at h
  split at h
  · exact ⟨_, rfl, rfl, (fun l => by unfold swapsWithSole; exact noSwap h), by cases e <;> rfl⟩
  · rw [Bool.and_eq_true] at h
    refine ⟨_, rfl, rfl, (fun l => by unfold swapsWithSole; exact noSwap h.1), ?_⟩
    have h2 := h.2
    cases e <;> first | rfl | cases h2
  · exact ⟨_, rfl, rfl, (fun l => by unfold swapsWithSole; exact noSwap h), by cases e <;> rfl⟩
  · cases h
theorem isLcAsg_eq {pos : Pos} {tgs : List Expr} {e : Expr} {y : Str} {elt tg it : Expr} {ifs : List Expr} {scope : Scope} {p : Pos} (h : isLcAsg C pos tgs e = some (y, elt, tg, it, ifs, scope, p)) :
    ∃ py, tgs = [.Name y py] ∧ e = .ListComp elt [⟨tg, it, ifs, 0⟩] scope p ∧ (py.line == p.line) = true ∧ (scope.names.any fun (n, k) => n == y && (k == .local || k == .cell)) = false := by
  unfold isLcAsg at h
  split at h
  · split at h
    · rename_i hg
      split at h
      · rename_i q
        cases h
        rw [Bool.and_eq_true, Bool.not_eq_true'] at q
        rw [isOneGen_eq hg]
        exact ⟨_, rfl, rfl, q.1, q.2⟩
      · cases h
    · cases h
  · cases h
theorem trS_ok : ∀ n : Nat, (∀ (X : Cx) (C : Ctx) s A, Good X C k → trS n C s = some A → SndS X s A) ∧ (∀ (X : Cx) (C : Ctx) s A, Good X C k → trSs n C s = some A → SndSs X s A)
  | 0 => by
    refine ⟨fun X C e A g h => ?_, fun X C e A g h => ?_⟩
    · exact absurd (show none = some _ from h) (by simp)
    · exact absurd (show none = some _ from h) (by simp)
  | n + 1 => by
    obtain ⟨iE, iT, iI, iG⟩ := tr_ok (k := k) n
    obtain ⟨iS, iSs⟩ := trS_ok n
    refine ⟨fun X C s A g h => ?_, fun X C ss A g h => ?_⟩
    · have h : trS1 (trE n) (trT n) (trI n) (trG n) (trSs n) C s = some _ := h
      unfold trS1 at h
      split at h
      · split at h
        · cases h; exact ss_retN
        · obtain ⟨A, h1, rfl⟩ := mapS h
          exact ss_ret (iE X C _ _ g h1)
      · split at h
        · cases h; exact ss_doc
        · obtain ⟨A, h1, rfl⟩ := mapS h
          exact ss_expr (iE X C _ _ g h1) rfl
        · cases h
      · rename_i tgs e pos
        split at h
        · rename_i y elt tg it ifs scope p hl
          obtain ⟨py, rfl, rfl, q1, q2⟩ := isLcAsg_eq hl
          split at h
          · rename_i A i h1 hi
            split at h
            · rename_i hloc
              cases h
              have hyl : X.env.scope.names.lookup y = some .local := by
                rw [g.x.hsc]
                unfold isLocal at hloc
                split at hloc
                · assumption
                · cases hloc
              obtain ⟨own, I, G, js, T, A, rfl, h1, h2, h3, h4, h5, h6, h7⟩ := trLc_ok g iE iT iI iG h1
              refine ss_setLc g.x.calm (by rw [g.x.hN]; exact g.x.nd) (by rw [g.x.hN]; exact ixOf_get hi) hyl ?_ h1 (foldSet h2) h3 h4 h5 h6 h7
              exact sw_true g.kd hyl q1 q2
            · rename_i hnl
              split at h
              · rename_i hloc
                cases h
                have hyc : X.env.kindOf y = some .cell := by
                  show X.env.scope.names.lookup y = _
                  rw [g.x.hsc]
                  unfold Ctx.loc at hloc
                  unfold isLocal at hnl
                  split at hloc
                  · rename_i e
                    rw [e] at hnl
                    exact absurd rfl hnl
                  · assumption
                  · cases hloc
                obtain ⟨own, I, G, js, T, A, rfl, h1, h2, h3, h4, h5, h6, h7⟩ := trLc_ok g iE iT iI iG h1
                obtain ⟨l1, l2⟩ := g.loc hloc
                refine ss_asg (by rw [assignEach_cons rfl]; rfl) ?_ rfl (snd_lc g.x.calm (by rw [g.x.hN]; exact g.x.nd) h1 (foldSet h2) h3 h4 h5 h6 h7) (sg_name (by rw [g.x.hN]; exact g.x.nd) (by rw [g.x.hN]; exact ixOf_get hi) l1 l2)
                unfold swapsWithSole swapsWith
                show pure (X.env.blockKind == .function && X.env.kindOf y == some .local && _ && _) = pure false
                rw [hyc]
                show pure ((X.env.blockKind == .function && false) && _ && _) = pure false
                rw [Bool.and_false, Bool.false_and, Bool.false_and]
              · cases h
          · cases h
        · split at h
          · rename_i ho
            split at h
            · rename_i A G js h1 h2
              cases h
              obtain ⟨tg, rfl, o1, o2, o3⟩ := okAsg_ok (env := X.env) ho
              exact ss_asg (by rw [assignEach_cons o1]; rfl) (o2 _) o3 (iE X C _ _ g h1) (iG X C _ _ _ g h2)
            · cases h
          · cases h
      · split at h
        · rename_i T A B h1 h2 h3
          cases h
          exact ss_if (iT X C _ _ g h1) (iSs X C _ _ g h2) (iSs X C _ _ g h3)
        · cases h
      · split at h
        · split at h
          · rename_i hs
            split at h
            · rename_i I G js A h1 h2 h3
              cases h
              exact ss_for g.x.xe g.x.calm (trFor_ok g iE iI h1) (iG X C _ _ _ g h2) (iSs X C _ _ g h3) (foldSet hs)
            · cases h
          · cases h
        · cases h
      · split at h
        · split at h
          · rename_i T A h1 h2
            cases h
            exact ss_while g.x.xe (iT X C _ _ g h1) (iSs X C _ _ g h2)
          · cases h
        · cases h
      · cases h; exact ss_pass
      · cases h; exact ss_break
      · cases h; exact ss_cont
      · cases h
    · have h : trSs1 (trS n) (trSs n) C ss = some _ := h
      unfold trSs1 at h
      split at h
      · cases h; exact sss_nil
      · obtain ⟨A, h1, rfl⟩ := mapS h
        exact preF_ok (sss_one (iS X C _ _ g h1))
      · split at h
        · rename_i A B h1 h2
          cases h
          exact preF_ok (sss_cons (iS X C _ _ g h1) (iSs X C _ _ g h2))
        · cases h
end
end DL

/-! DL7: defs of a text by their translation; the law's end. -/
namespace DL
open PySem PySem.Spec PyProof.Rows L2

section
variable (P : Program) (w : World) (K : PySem.W.Frag) (mg : Str → Option Value) (base : Heap)
/-- a def stands and keeps its promise -/
def Ent (k : Nat) (x : Str) (np : Nat) (S : FSem) : Prop := ∃ f fd ps, FnOk P w K mg base CX0 k f fd ps (spOf K np S) ∧ mg x = some (.ref f) ∧ PySem.W.keepIn K (.ref f) = true ∧ Binds K fd ps []
/-- the module's constants stand -/
def CAll (cs : List (Str × PV)) : Prop := ∀ x v, cs.lookup x = some v → ∃ w u, mg x = some u ∧ RelV w u ∧ ∀ F ρ n, RelP K F ρ n v w
def GAll (k : Nat) (G : List (Str × Nat × FSem)) : Prop := ∀ x np S, G.lookup x = some (np, S) → Ent P w K mg base k x np S
end
section
variable {P : Program} {w : World} {K : PySem.W.Frag} {mg : Str → Option Value} {base : Heap}
theorem Ent.mono {j k : Nat} {x : Str} {np : Nat} {S : FSem} (h : Ent P w K mg base j x np S) (q : j ≤ k) : Ent P w K mg base k x np S := by
  obtain ⟨f, fd, ps, h1, h2⟩ := h
  exact ⟨f, fd, ps, h1.mono q, h2⟩
theorem CAll.nil : CAll K mg [] := fun _ _ h => by cases h
theorem GAll.nil {k : Nat} : GAll P w K mg base k [] := fun _ _ _ h => by cases h
theorem GAll.cons {k : Nat} {x : Str} {np : Nat} {S : FSem} {G : List (Str × Nat × FSem)} (h : Ent P w K mg base k x np S) (t : GAll P w K mg base k G) : GAll P w K mg base k ((x, np, S) :: G) := fun y m T q => by
  rw [List.lookup_cons] at q
  split at q
  · rename_i e
    cases q
    have e := eq_of_beq e
    subst e
    exact h
  · exact t y m T q
theorem GAll.mono {j k : Nat} {G : List (Str × Nat × FSem)} (h : GAll P w K mg base j G) (q : j ≤ k) : GAll P w K mg base k G := fun x np S z => (h x np S z).mono q
/-- a def, by its translation -/
theorem fn_tr {x qual : Str} {st : Stmt} {f : Addr} {fd : FuncData} {N ps : List Str} {k n : Nat} {D : DS} {G : List (Str × Nat × FSem)} {bs : List Str} {mu : List (Nat × Nat × Nat)} {cs : List (Str × PV)} (F : Fun K x qual st f fd) (S : FnScope N ps (defScope st))
    (hG : GAll P w K mg base k G) (hb : ∀ n, bs.contains n = true → mg n = none) (hc : CAll K mg cs) (ht : trSs n ⟨N, defScope st, fun _ => true, G, bs, mu, cs⟩ (defBody st) = some D) :
    FnOk P w K mg base CX0 (k + 1) f fd ps (spOf K ps.length (runF N.length ps.length D)) := by
  refine fn_sound F S fun X h1 h2 h3 h4 h5 hx => ?_
  subst h1 h2 h3 h4 h5
  refine (trS_ok (k := k) n).2 X ⟨N, defScope st, fun _ => true, G, bs, mu, cs⟩ _ D ⟨hx, hG, hb, ?_, hc⟩ ht
  rw [hx.hsc]
  exact S.kind
theorem fn_trK {x qual : Str} {st : Stmt} {f : Addr} {fd : FuncData} {N ps : List Str} {k n : Nat} {D : DS} {G : List (Str × Nat × FSem)} {bs : List Str} {mu : List (Nat × Nat × Nat)} {cs : List (Str × PV)} (F : Fun K x qual st f fd) (S : FnScope N ps (defScope st))
    (hG : GAll P w K mg base k G) (hb : ∀ n, bs.contains n = true → mg n = none) (hc : CAll K mg cs) (ht : trSs n ⟨N, defScope st, fun _ => true, G, bs, mu, cs⟩ (defBody st) = some D) :
    FnOk P w K mg base CX0 (k + 1) f fd ps (spOf K ps.length (runK N.length ps.length D)) := by
  refine fn_soundK F S fun X h1 h2 h3 h4 h5 hx => ?_
  subst h1 h2 h3 h4 h5
  refine (trS_ok (k := k) n).2 X ⟨N, defScope st, fun _ => true, G, bs, mu, cs⟩ _ D ⟨hx, hG, hb, ?_, hc⟩ ht
  rw [hx.hsc]
  exact S.kind
/-- what is never asked -/
def noSem : FSem := fun _ _ => none
theorem fn_no {f : Addr} {fd : FuncData} {ps : List Str} : FnOk P w K mg base CX0 0 f fd ps (spOf K ps.length noSem) :=
  ⟨fun vs H Q E h => h.1, fun A outer s H args us vs Q E hr he hb hv h => by obtain ⟨_, F, ρ, st, ar, v, st', _, _, z, _⟩ := h; cases z⟩
/-- the empty store -/
def st0 : Sto := ⟨0, fun _ => none, fun _ _ => rfl, fun _ _ h => by cases h⟩
def spLaw (K : PySem.W.Frag) : Sp := fun vs H Q _ => ∃ (a : Addr) (ns : List Int), vs = [.ref a] ∧ SqL K H a (ns.map V.int) ∧ ns.length ≤ 63 ∧ ∀ H', Q (.bl true) H'
theorem law_end {k : Nat} {f : Addr} {fd : FuncData} {ps : List Str} {S : FSem} (h : FnOk P w K mg base CX0 k f fd ps (spOf K 1 S)) (hl : ∀ ns : List Int, ns.length ≤ 63 → ∃ st, S [.ro (ns.map .int)] st0 = some (.bl true, st)) :
    FnOk P w K mg base CX0 k f fd ps (spLaw K) := by
  refine h.imp fun vs H Q E hs => ?_
  obtain ⟨a, ns, rfl, hS, hlen, q⟩ := hs
  obtain ⟨st, hst⟩ := hl ns hlen
  refine ⟨rfl, H, fun _ => 0, st0, [.ro (ns.map .int)], .bl true, st, ⟨fun _ _ z => z, fun l c z => (by cases z), fun l l' c c' z => (by cases z)⟩, .cons ?_ .nil, hst, fun F' ρ' w' H' p r => ?_⟩
  · rw [RelP]
    exact ⟨a, ns.map V.int, rfl, hS, RelPs.ints ns⟩
  · rw [RelP] at r
    rw [r]
    exact q H'
end
theorem walk {l : PySem.W.OpenLaw} {q : Program} {loose : List Str} {XP : (Str → Option Value) → Heap → Prop} {YP : World → Heap → Prop} {d : DefRec} {K : Params → PySem.W.Frag} {k : Nat} (hk : k ≤ 40) (hn : l.most = some 63) (hdf : d.params.defaults = [])
    (hY : ∀ (w : World) (h : Heap), YP w h → (K w.params).In h)
    (F : ∀ (w : World) (mg : Str → Option Value) (fa : Addr) (h : Heap), (K w.params).In h → h.Ns mainGlobals mg → mg d.name = some (.ref fa) →
      ∃ fd : FuncData, (∀ (s : Shared) (u : Value), BindsTo s fd ⟨[u], []⟩ [("script", u)]) ∧ ∀ base : Heap, (K w.params).In base → base.Ns mainGlobals mg → FnOk l.prog w (K w.params) mg base CX0 k fa fd ["script"] (spLaw (K w.params))) :
    PySem.W.WalkO q loose XP YP l.row.toRowW d [] (fun f vs => PySem.call f vs) :=
  L2.walk_of (n := 63) (k := k) (x := "script") (CX := fun _ => CX0) (sp := fun w => spLaw (K w.params)) hn (by decide) hdf (Room.mono (k := 40) ⟨rfl, by decide, by decide⟩ hk) hY F (fun _ _ a ns hl _ hS => ⟨a, ns, rfl, hS, hl, fun _ => rfl⟩) fun _ _ _ _ _ z => z
end DL

/-! DL8: how what a piece computes is shown. -/
namespace DL
open PySem L2

def wp {α : Type} (m : Option (α × Sto)) (Q : α → Sto → Prop) : Prop := ∃ a s, m = some (a, s) ∧ Q a s
section
variable {α β : Type} {m : Option (α × Sto)} {Q : α → Sto → Prop} {st : Sto} {env : Env}
theorem wp_ret {a : α} (q : Q a st) : wp (some (a, st)) Q := ⟨a, st, rfl, q⟩
theorem wp_eq {a : α} {s : Sto} (h : m = some (a, s)) (q : Q a s) : wp m Q := ⟨a, s, h, q⟩
theorem eq_of_wp {a : α} (h : wp m fun b s => b = a ∧ s = st) : m = some (a, st) := by
  obtain ⟨b, s, e, rfl, rfl⟩ := h
  exact e
theorem wp_mono {R : α → Sto → Prop} (h : wp m R) (k : ∀ a s, R a s → Q a s) : wp m Q := by
  obtain ⟨a, s, e, r⟩ := h
  exact ⟨a, s, e, k a s r⟩
theorem wp_mb {f : β → Sto → Option (α × Sto)} {n : Option (β × Sto)} (h : wp n fun b s => wp (f b s) Q) : wp (mb n f) Q := by
  obtain ⟨b, s, rfl, h⟩ := h
  exact h
end
theorem wp_pos {α : Type} {c : Prop} [Decidable c] {A B : Option (α × Sto)} {Q : α → Sto → Prop} (h : c) (q : wp A Q) : wp (if c then A else B) Q := by rw [if_pos h]; exact q
theorem wp_neg {α : Type} {c : Prop} [Decidable c] {A B : Option (α × Sto)} {Q : α → Sto → Prop} (h : ¬ c) (q : wp B Q) : wp (if c then A else B) Q := by rw [if_neg h]; exact q
theorem wp_if {α : Type} {c : Prop} [Decidable c] {A B : Option (α × Sto)} {Q : α → Sto → Prop} (h : c → wp A Q) (q : ¬ c → wp B Q) : wp (if c then A else B) Q := by
  by_cases e : c
  · rw [if_pos e]; exact h e
  · rw [if_neg e]; exact q e
theorem wp_mul {a b : Int} {st : Sto} {Q : PV → Sto → Prop} (h : okMul a b = true) (q : Q (.int (a * b)) st) : wp (opMul (.int a) (.int b) st) Q := by
  show wp (if okMul a b then some (PV.int (a * b), st) else none) Q
  exact wp_pos h (wp_ret q)
theorem wp_mod {a b : Int} {st : Sto} {Q : PV → Sto → Prop} (h : okMod b = true) (q : Q (.int (a % b)) st) : wp (opMod (.int a) (.int b) st) Q := by
  show wp (if okMod b then some (PV.int (a % b), st) else none) Q
  exact wp_pos h (wp_ret q)
theorem wp_div {a b : Int} {st : Sto} {Q : PV → Sto → Prop} (h : okDiv b = true) (q : Q (.int (a / b)) st) : wp (opDiv (.int a) (.int b) st) Q := by
  show wp (if okDiv b then some (PV.int (a / b), st) else none) Q
  exact wp_pos h (wp_ret q)
theorem wp_pow {a b : Int} {st : Sto} {Q : PV → Sto → Prop} (h : okPow a b = true) (q : Q (.int (a ^ b.toNat)) st) : wp (opPow (.int a) (.int b) st) Q := by
  show wp (if okPow a b then some (PV.int (a ^ b.toNat), st) else none) Q
  exact wp_pos h (wp_ret q)
/-- what is at a place -/
theorem loc_seq {p : Nat} {st : Sto} {xs : List PV} (h : st.cs p = some (.lst xs)) : seqOf st (.loc p) = some xs := by
  show (match st.cs p with | some (.lst xs) => some xs | _ => none) = _
  rw [h]
theorem loc_dct {p : Nat} {st : Sto} {xs : List PV} (h : st.cs p = some (.lst xs)) : dctOf st (.loc p) = none := by
  show (match st.cs p with | some (.dct ks vs) => some (ks, vs) | _ => none) = none
  rw [h]
theorem dct_of {p : Nat} {st : Sto} {ks vs : List PV} (h : st.cs p = some (.dct ks vs)) : dctOf st (.loc p) = some (ks, vs) := by
  show (match st.cs p with | some (.dct ks vs) => some (ks, vs) | _ => none) = _
  rw [h]
theorem loc_dki {p : Nat} {st : Sto} {xs : List PV} (h : st.cs p = some (.lst xs)) : dkiOf st (.loc p) = none := by
  show (match st.cs p with | some (.dki ks vs) => some (ks, vs) | _ => none) = none
  rw [h]
theorem dct_dki {p : Nat} {st : Sto} {ks vs : List PV} (h : st.cs p = some (.dct ks vs)) : dkiOf st (.loc p) = none := by
  show (match st.cs p with | some (.dki ks vs) => some (ks, vs) | _ => none) = none
  rw [h]
theorem dki_of {p : Nat} {st : Sto} {ks : List Int} {vs : List PV} (h : st.cs p = some (.dki ks vs)) : dkiOf st (.loc p) = some (ks, vs) := by
  show (match st.cs p with | some (.dki ks vs) => some (ks, vs) | _ => none) = _
  rw [h]
theorem len_loc {l : Nat} {st : Sto} : bLen [.loc l] st = (match seqOf st (.loc l) with | some xs => some (.int xs.length, st) | none => match dctOf st (.loc l) with | some (ks, _) => some (.int ks.length, st) | none => none) := rfl
theorem loc_len {p : Nat} {st : Sto} {xs : List PV} (h : st.cs p = some (.lst xs)) : bLen [.loc p] st = some (.int xs.length, st) := by
  rw [len_loc, loc_seq h]
theorem loc_ix {p : Nat} {st : Sto} {xs : List PV} {i : Int} {v : PV} (h : st.cs p = some (.lst xs)) (hi : atI xs i = some v) : opIx (.loc p) (.int i) st = some (v, st) := by
  unfold opIx
  rw [loc_dki h, loc_dct h]
  dsimp only
  show (match seqOf st (.loc p) with | some xs => (atI xs i).map fun v => (v, st) | none => none) = _
  rw [loc_seq h]
  show (atI xs i).map (fun v => (v, st)) = _
  rw [hi]; rfl
theorem seq_len {v : PV} {st : Sto} {xs : List PV} (h : seqOf st v = some xs) : bLen [v] st = some (.int xs.length, st) := by
  cases v with
  | loc l =>
    rw [len_loc, h]
  | tup ys => cases h; rfl
  | lst ys => cases h; rfl
  | ro ys => cases h; rfl
  | _ => cases h
theorem seq_ix {v : PV} {st : Sto} {xs : List PV} {i : Int} {x : PV} (h : seqOf st v = some xs) (hi : atI xs i = some x) : opIx v (.int i) st = some (x, st) := by
  have e1 : dctOf st v = none := by
    cases v with
    | loc l =>
      have h : (match st.cs l with | some (.lst xs) => some xs | _ => none) = some xs := h
      show (match st.cs l with | some (.dct ks vs) => some (ks, vs) | _ => none) = none
      split at h
      · rename_i hl; rw [hl]
      · cases h
    | dct _ _ => cases h
    | _ => rfl
  have e0 : dkiOf st v = none := by
    cases v with
    | loc l =>
      have h : (match st.cs l with | some (.lst xs) => some xs | _ => none) = some xs := h
      show (match st.cs l with | some (.dki ks vs) => some (ks, vs) | _ => none) = none
      split at h
      · rename_i hl; rw [hl]
      · cases h
    | dki _ _ => cases h
    | _ => rfl
  unfold opIx
  rw [e0, e1]
  dsimp only
  show (match seqOf st v with | some xs => (atI xs i).map fun v => (v, st) | none => none) = _
  rw [h]
  show (atI xs i).map (fun v => (v, st)) = _
  rw [hi]; rfl
theorem loc_asL {p : Nat} {st : Sto} {xs : List PV} (h : st.cs p = some (.lst xs)) : asL (.loc p) st = some (p, st) := by
  show (match st.cs p with | some (.lst _) => some (p, st) | _ => none) = _
  rw [h]
theorem loc_pop {p : Nat} {st : Sto} {xs : List PV} {v : PV} (h : st.cs p = some (.lst xs)) (hv : xs[xs.length - 1]? = some v) : mPop p [] st = some (v, st.set p (.lst xs.dropLast)) := by
  show (match st.cs p with | some (.lst xs) => (match xs[xs.length - 1]? with | some y => some (y, st.set p (.lst xs.dropLast)) | none => none) | _ => none) = _
  rw [h]
  show (match xs[xs.length - 1]? with | some y => some (y, st.set p (.lst xs.dropLast)) | none => none) = _
  rw [hv]
theorem loc_append {p : Nat} {st : Sto} {xs : List PV} {v : PV} (h : st.cs p = some (.lst xs)) (hz : xs.length < sizeLine) (hv : v.lb st.nxt = true) : mAppend p [v] st = some (.non, st.set p (.lst (xs ++ [v]))) := by
  show (match st.cs p with | some (.lst xs) => (if xs.length < sizeLine && v.lb st.nxt then some (PV.non, st.set p (.lst (xs ++ [v]))) else none) | _ => none) = _
  rw [h]
  show (if xs.length < sizeLine && v.lb st.nxt then some (PV.non, st.set p (.lst (xs ++ [v]))) else none) = _
  rw [hv, decide_eq_true hz]; rfl
theorem loc_reverse {p : Nat} {st : Sto} {xs : List PV} (h : st.cs p = some (.lst xs)) : mReverse p [] st = some (.non, st.set p (.lst xs.reverse)) := by
  show (match st.cs p with | some (.lst xs) => some (PV.non, st.set p (.lst xs.reverse)) | _ => none) = _
  rw [h]
theorem loc_set {p : Nat} {st : Sto} {xs : List PV} {i : Int} {j : Nat} {v : PV} (h : st.cs p = some (.lst xs)) (hj : ixN xs.length i = some j) (hv : v.lb st.nxt = true) : setL (.loc p) (.int i) v st = some (st.set p (.lst (xs.set j v))) := by
  rw [show setL (.loc p) (.int i) v st = (match st.cs p with | some (.lst xs) => (match ixN xs.length i with | some j => (if v.lb st.nxt then some (st.set p (.lst (xs.set j v))) else none) | none => none) | some (.dct ks vs) => (if goodK ks (.int i) && v.lb st.nxt && decide (ks.length < sizeLine) then some (st.set p (.dct (dput ks vs (.int i) v).1 (dput ks vs (.int i) v).2)) else none) | some (.dki ks vs) => (if v.lb st.nxt && okLen (ks.length + 1) then some (st.set p (.dki (iput ks vs i v).1 (iput ks vs i v).2)) else none) | none => none) from rfl, h]
  show (match ixN xs.length i with | some j => (if v.lb st.nxt then some (st.set p (.lst (xs.set j v))) else none) | none => none) = _
  rw [hj]
  show (if v.lb st.nxt then some (st.set p (.lst (xs.set j v))) else none) = _
  rw [hv, if_pos rfl]
/-! dicts at a place -/
section
variable {p : Nat} {st : Sto} {ks vs : List PV} {k v : PV}
theorem dct_ix (h : st.cs p = some (.dct ks vs)) (hg : goodK ks k = true) (hv : dlook ks vs k = some v) : opIx (.loc p) k st = some (v, st) := by
  unfold opIx
  rw [dct_dki h, dct_of h]
  dsimp only
  show (if goodK ks k then (dlook ks vs k).map fun v => (v, st) else none) = _
  rw [if_pos hg, hv]; rfl
theorem dct_set (h : st.cs p = some (.dct ks vs)) (hg : goodK ks k = true) (hv : v.lb st.nxt = true) (hz : ks.length < sizeLine) : setL (.loc p) k v st = some (st.set p (.dct (dput ks vs k v).1 (dput ks vs k v).2)) := by
  unfold setL
  dsimp only
  rw [h]
  show (if goodK ks k && v.lb st.nxt && decide (ks.length < sizeLine) then some (st.set p (.dct (dput ks vs k v).1 (dput ks vs k v).2)) else none) = _
  rw [hg, hv, decide_eq_true hz]; rfl
theorem dct_in {neg : Bool} (h : st.cs p = some (.dct ks vs)) (hg : goodK ks k = true) : cmpIn neg k (.loc p) st = some (.bl ((dlook ks vs k).isSome != neg), st) := by
  unfold cmpIn
  rw [dct_dki h, dct_of h]
  dsimp only
  show (if goodK ks k then some (PV.bl ((dlook ks vs k).isSome != neg), st) else none) = _
  rw [if_pos hg]
theorem dct_get {o e f : DE} {env : Env} {s0 s1 s2 : Sto} {z : PV} (h0 : o env s0 = some (.loc p, s1)) (h1 : s1.cs p = some (.dct ks vs)) (h2 : e env s1 = some (k, s2)) (h3 : f env s2 = some (z, st)) (h : st.cs p = some (.dct ks vs)) (hg : goodK ks k = true) : dGet2 o e f env s0 = some ((dlook ks vs k).getD z, st) := by
  unfold dGet2
  rw [h0, mb_some, dct_of h1]
  show mb (e env s1) _ = _
  rw [h2, mb_some, h3, mb_some, dct_of h]
  show (if goodK ks k then some ((dlook ks vs k).getD z, st) else none) = _
  rw [if_pos hg]
theorem dct_sorted {m : Bool} (h : st.cs p = some (.dct ks vs)) : bSorted m [.loc p] st = sortGo m ks st := by
  have e : lstOf st (.loc p) = none := by
    show (match st.cs p with | some (.lst xs) => some xs | _ => none) = _
    rw [h]
  show (match lstOf st (.loc p) with | some xs => sortGo m xs st | none => match dctOf st (.loc p) with | some (ks, _) => sortGo m ks st | none => none) = _
  rw [e, dct_of h]
end
/-! dicts of ints at a place -/
section
variable {p : Nat} {st : Sto} {ks : List Int} {vs : List PV} {v : PV} {i : Int}
theorem dki_ix (h : st.cs p = some (.dki ks vs)) (hv : ilook ks vs i = some v) : opIx (.loc p) (.int i) st = some (v, st) := by
  unfold opIx
  rw [dki_of h]
  show (ilook ks vs i).map (fun v => (v, st)) = _
  rw [hv]; rfl
theorem dki_set (h : st.cs p = some (.dki ks vs)) (hv : v.lb st.nxt = true) (hz : ks.length < sizeLine) : setL (.loc p) (.int i) v st = some (st.set p (.dki (iput ks vs i v).1 (iput ks vs i v).2)) := by
  unfold setL
  dsimp only
  rw [h]
  show (if v.lb st.nxt && okLen (ks.length + 1) then some (st.set p (.dki (iput ks vs i v).1 (iput ks vs i v).2)) else none) = _
  rw [hv, okLen_iff.mpr (by omega)]; rfl
theorem dki_in {neg : Bool} (h : st.cs p = some (.dki ks vs)) : cmpIn neg (.int i) (.loc p) st = some (.bl ((ilook ks vs i).isSome != neg), st) := by
  unfold cmpIn
  rw [dki_of h]
theorem dki_get {o e : DE} {env : Env} {s0 s1 : Sto} {z : List Int × List PV} (h0 : o env s0 = some (.loc p, s1)) (h1 : dkiOf s1 (.loc p) = some z) (h2 : e env s1 = some (.int i, st)) (h : st.cs p = some (.dki ks vs)) : dGet1 o e env s0 = some ((ilook ks vs i).getD .non, st) := by
  unfold dGet1
  rw [h0, mb_some, h1]
  show mb (e env s1) _ = _
  rw [h2, mb_some]
  dsimp only
  rw [dki_of h]
end
/-- a loop -/
theorem forGo_wp {its : Its} {g : DG} {d : DS} (I : Nat → Env → Sto → Prop) (Q : Fl → Sto → Prop)
    (hs : ∀ (k : Nat) x env st, its.items[k]? = some x → I k env st → its.ok st ∧ wp (g x env st) fun e1 s1 => wp (d e1 s1) fun f s2 => match f with
      | .nx e => I (k + 1) e s2
      | .ct e => I (k + 1) e s2
      | .bk e => Q (.nx e) s2
      | .rt v => Q (.rt v) s2) (hd : ∀ env st, I its.items.length env st → its.ok st ∧ Q (.nx env) st) {env : Env} {st : Sto} (h0 : I 0 env st) : wp (forGo its g d its.items env st) Q := by
  have key : ∀ (m k : Nat) (env : Env) (st : Sto), k + m = its.items.length → I k env st → wp (forGo its g d (its.items.drop k) env st) Q := by
    intro m
    induction m with
    | zero =>
      intro k env st e h
      have e : k = its.items.length := by omega
      subst e
      obtain ⟨ok, q⟩ := hd env st h
      rw [List.drop_length, forGo, if_pos ok]
      exact wp_ret q
    | succ m ih =>
      intro k env st e h
      have hk : k < its.items.length := by omega
      obtain ⟨ok, t⟩ := hs k its.items[k] env st (List.getElem?_eq_getElem hk) h
      rw [List.drop_eq_getElem_cons hk, forGo, if_pos ok]
      refine wp_mb (wp_mono t fun e1 s1 t => wp_mb (wp_mono t fun f s2 t => ?_))
      cases f with
      | nx e => exact ih (k + 1) e s2 (by omega) t
      | ct e => exact ih (k + 1) e s2 (by omega) t
      | bk e => exact wp_ret t
      | rt v => exact wp_ret t
  have := key its.items.length 0 env st (by omega) h0
  rw [List.drop_zero] at this
  exact this
/-- a comprehension -/
theorem lcGo_wp {its : Its} {g : DG} {t : DT} {e : DE} {env : Env} (I : Nat → List PV → Sto → Prop) (Q : List PV → Sto → Prop)
    (hs : ∀ (k : Nat) x done st, its.items[k]? = some x → I k done st → its.ok st ∧ wp (g x env st) fun e1 s1 => wp (t e1 s1) fun b s2 => if b then wp (e e1 s2) fun y s3 => I (k + 1) (done ++ [y]) s3 else I (k + 1) done s2)
    (hd : ∀ done st, I its.items.length done st → its.ok st ∧ Q done st) {st : Sto} (h0 : I 0 [] st) : wp (lcGo its g t e env its.items st) Q := by
  have key : ∀ (m k : Nat) (done : List PV) (st : Sto), k + m = its.items.length → I k done st → wp (lcGo its g t e env (its.items.drop k) st) fun ys s => Q (done ++ ys) s := by
    intro m
    induction m with
    | zero =>
      intro k done st e h
      have e : k = its.items.length := by omega
      subst e
      obtain ⟨ok, q⟩ := hd done st h
      rw [List.drop_length, lcGo, if_pos ok]
      exact wp_ret (by rw [List.append_nil]; exact q)
    | succ m ih =>
      intro k done st e h
      have hk : k < its.items.length := by omega
      obtain ⟨ok, t⟩ := hs k its.items[k] done st (List.getElem?_eq_getElem hk) h
      rw [List.drop_eq_getElem_cons hk, lcGo, if_pos ok]
      refine wp_mb (wp_mono t fun e1 s1 t => wp_mb (wp_mono t fun b s2 t => ?_))
      cases b with
      | false =>
        rw [if_neg (by decide)] at t ⊢
        exact ih (k + 1) done s2 (by omega) t
      | true =>
        rw [if_pos rfl] at t ⊢
        refine wp_mb (wp_mono t fun y s3 t => wp_mb (wp_mono (ih (k + 1) _ s3 (by omega) t) fun ys s4 q => wp_ret ?_))
        rw [List.append_assoc] at q
        exact q
  have := key its.items.length 0 [] st (by omega) h0
  rw [List.drop_zero] at this
  exact wp_mono this fun ys s q => q
/-- a comprehension that changes nothing and has no test -/
theorem lcGo_map {its : Its} {g : DG} {e : DE} {env : Env} {st : Sto} (f : PV → PV) (ok : its.ok st) (h : ∀ x ∈ its.items, ∃ e1, g x env st = some (e1, st) ∧ e e1 st = some (f x, st)) : lcGo its g tYes e env its.items st = some (its.items.map f, st) := by
  have key : ∀ xs : List PV, (∀ x ∈ xs, x ∈ its.items) → lcGo its g tYes e env xs st = some (xs.map f, st) := by
    intro xs
    induction xs with
    | nil => intro _; rw [lcGo, if_pos ok]; rfl
    | cons x r ih =>
      intro hx
      obtain ⟨e1, h1, h2⟩ := h x (hx x List.mem_cons_self)
      rw [lcGo, if_pos ok, h1, mb_some]
      show mb (some (true, st)) _ = _
      rw [mb_some, if_pos rfl, h2, mb_some, ih fun y hy => hx y (List.mem_cons_of_mem _ hy), mb_some]
      rfl
  exact key its.items fun _ z => z
/-- .. with a test -/
theorem lcGo_filter {its : Its} {g : DG} {t : DT} {e : DE} {env : Env} {st : Sto} (p : PV → Bool) (f : PV → PV) (ok : its.ok st) (h : ∀ x ∈ its.items, ∃ e1, g x env st = some (e1, st) ∧ t e1 st = some (p x, st) ∧ (p x = true → e e1 st = some (f x, st))) : lcGo its g t e env its.items st = some ((its.items.filter p).map f, st) := by
  have key : ∀ xs : List PV, (∀ x ∈ xs, x ∈ its.items) → lcGo its g t e env xs st = some ((xs.filter p).map f, st) := by
    intro xs
    induction xs with
    | nil => intro _; rw [lcGo, if_pos ok]; rfl
    | cons x r ih =>
      intro hx
      obtain ⟨e1, h1, h2, h3⟩ := h x (hx x List.mem_cons_self)
      rw [lcGo, if_pos ok, h1, mb_some, h2, mb_some, List.filter_cons]
      cases hp : p x with
      | true =>
        rw [if_pos rfl, if_pos rfl, h3 hp, mb_some, ih fun y hy => hx y (List.mem_cons_of_mem _ hy), mb_some]
        rfl
      | false =>
        rw [if_neg (by decide), if_neg (by decide)]
        exact ih fun y hy => hx y (List.mem_cons_of_mem _ hy)
  exact key its.items fun _ z => z
theorem Its.ok_none {xs : List PV} {st : Sto} : (Its.mk xs none).ok st := trivial
theorem Its.ok_some {xs : List PV} {st : Sto} {l : Nat} {c : Cell} (h : st.cs l = some c) : (Its.mk xs (some (l, c))).ok st := h

/-- .. over a range, item by item -/
theorem lc_rng {n : Nat} {g : DG} {e : DE} {env : Env} {st : Sto} (vs : List PV) (hn : vs.length = n) (h : ∀ (k : Nat), k < n → ∃ e1 v, g (.int ((0 : Int) + (k : Int))) env st = some (e1, st) ∧ vs[k]? = some v ∧ e e1 st = some (v, st)) : lcGo ⟨rng 0 (n : Int), none⟩ g tYes e env (rng 0 (n : Int)) st = some (vs, st) := by
  have e0 : rng 0 (n : Int) = (List.range n).map fun (k : Nat) => PV.int ((0 : Int) + (k : Int)) := by
    unfold rng
    rw [Int.sub_zero, Int.toNat_natCast]
  let f : PV → PV := fun x => match x with
    | .int i => (vs[i.toNat]?).getD .non
    | _ => .non
  have := lcGo_map (its := ⟨rng 0 (n : Int), none⟩) (g := g) (e := e) (env := env) (st := st) f trivial (fun x hx => by
    have hx : x ∈ rng 0 (n : Int) := hx
    rw [e0, List.mem_map] at hx
    obtain ⟨k, hk, rfl⟩ := hx
    obtain ⟨e1, v, h1, h2, h3⟩ := h k (List.mem_range.mp hk)
    refine ⟨e1, h1, ?_⟩
    rw [h3]
    show some (v, st) = some ((vs[((0 : Int) + (k : Int)).toNat]?).getD .non, st)
    rw [Int.zero_add, Int.toNat_natCast, h2]
    rfl)
  have e1 : (rng 0 (n : Int)).map f = vs := by
    rw [e0, List.map_map]
    apply List.ext_getElem?
    intro k
    rw [List.getElem?_map]
    by_cases hk : k < n
    · rw [List.getElem?_range hk]
      show some ((vs[((0 : Int) + (k : Int)).toNat]?).getD .non) = _
      rw [Int.zero_add, Int.toNat_natCast, List.getElem?_eq_getElem (by omega)]
      rfl
    · rw [List.getElem?_eq_none (by rw [List.length_range]; omega), List.getElem?_eq_none (by omega)]
      rfl
  rw [e1] at this
  exact this
/-- .. over items -/
theorem lc_items {its : Its} {g : DG} {e : DE} {env : Env} {st : Sto} (vs : List PV) (ok : its.ok st) (hn : vs.length = its.items.length) (h : ∀ (k : Nat) x, its.items[k]? = some x → ∃ e1 v, g x env st = some (e1, st) ∧ vs[k]? = some v ∧ e e1 st = some (v, st)) : lcGo its g tYes e env its.items st = some (vs, st) := by
  obtain ⟨ys, s, h1, h2, h3⟩ := lcGo_wp (its := its) (g := g) (t := tYes) (e := e) (env := env) (fun k done s => s = st ∧ done = vs.take k) (fun ys s => s = st ∧ ys = vs) (fun k x done s hx hI => by
    obtain ⟨rfl, rfl⟩ := hI
    obtain ⟨e1, v, h1, h2, h3⟩ := h k x hx
    refine ⟨ok, wp_eq h1 (wp_eq rfl ?_)⟩
    rw [if_pos rfl]
    exact wp_eq h3 ⟨rfl, by rw [List.take_add_one, h2]; rfl⟩) (fun done s hI => by
    obtain ⟨rfl, rfl⟩ := hI
    exact ⟨ok, rfl, by rw [← hn, List.take_length]⟩) (st := st) ⟨rfl, rfl⟩
  rw [h1, h2, h3]

/-! ### values of one kind -/
def tT (a : List Int) : PV := .tup (a.map .int)
theorem tT_lb {n : Nat} {a : List Int} : (tT a).lb n = true := by
  unfold tT
  rw [PV.lb]
  exact lbs_map (fun i => lb_int n i) a
theorem res_of {b : Nat} {cs : Nat → Option Cell} {v : PV} (h : v.lb b = true) : v.res b cs = some v := PV.res_lb h
/-- a def hands back a value without places -/
theorem fin_val {b : Nat} {v : PV} {st : Sto} (h : v.lb b = true) : fin b v st = some (v, st.restr b) := by
  unfold fin
  split
  · rename_i l
    rw [PV.lb, decide_eq_true_eq] at h
    rw [if_pos h]
  · rw [PV.res_lb h]; rfl
theorem fin_loc {b l : Nat} {st : Sto} {c : Cell} (hb : b ≤ l) (h : st.cs l = some c) (hc : c.lb b = true) : fin b (.loc l) st = some (.loc b, (st.restr b).alloc c) := by
  show (if l < b then some (PV.loc l, st.restr b) else match st.cs l with | some c => (if c.lb b then some (PV.loc b, (st.restr b).alloc c) else none) | none => none) = _
  rw [if_neg (by omega), h]
  show (if c.lb b then some (PV.loc b, (st.restr b).alloc c) else none) = _
  rw [if_pos hc]
theorem settle_val {b : Nat} {v : PV} {st : Sto} (h : v.lb b = true) : settle b v st = some (v, st.restr b) := by
  unfold settle
  rw [PV.res_lb h]; rfl
/-- behind a call: a value without places is kept, the rest dropped -/
theorem wp_set {b : Nat} {v : PV} {s : Sto} {X : Option (PV × Sto)} {Q : PV → Sto → Prop} (hb : b = s.nxt) (h : v.lb b = true) (q : Q v s) : wp (if false = true then X else settle b v s) Q := by
  subst hb
  rw [if_neg (by decide), settle_val h, Sto.restr_self]
  exact wp_ret q
theorem wp_runF {n np : Nat} {d : DS} {args : List PV} {st : Sto} {Q : PV → Sto → Prop} (hl : args.length = np)
    (h : wp (d (args.map some ++ List.replicate (n - args.length) none) st) fun f s => match f with
      | .rt v => wp (fin st.nxt v s) Q
      | .nx _ => wp (fin st.nxt .non s) Q
      | _ => False) : wp (runF n np d args st) Q := by
  obtain ⟨f, s, e, h⟩ := h
  unfold runF
  rw [if_pos hl, e]
  cases f with
  | rt v => exact h
  | nx e => exact h
  | bk e => exact h.elim
  | ct e => exact h.elim
/-- .. and changes nothing -/
theorem runF_eq {n np : Nat} {d : DS} {args : List PV} {st : Sto} {v : PV} (hl : args.length = np) (hv : v.lb st.nxt = true)
    (h : wp (d (args.map some ++ List.replicate (n - args.length) none) st) fun f s => f = .rt v ∧ s = st) : runF n np d args st = some (v, st) := by
  obtain ⟨f, s, e, rfl, rfl⟩ := h
  unfold runF
  rw [if_pos hl, e]
  show fin s.nxt v s = _
  rw [fin_val hv, Sto.restr_self]
end DL

namespace DL
open PySem PySem.Spec PyProof.Rows L2
/-! ### the text by places -/
def top (i : Nat) : Stmt := PySem.Challenge.pw_deltastead_k11_whole_least_orders.main.body.getD i (.Pass ⟨0, 0, 0, 0⟩)

/-! has_all : slots 0 search, 1 other, 2 column -/
abbrev s_has_all : Stmt := top 2
noncomputable def D_has_all : DS :=
    (sSeq (sFor (iSeq (dVar 1)) (gName 2)
    (sIf (tVal (dBin (cmpIn true) (dVar 2) (dVar 0)))
      (sRet (dCst (.bl false)))
      sPass))
    (sRet (dCst (.bl true))))
@[irreducible] noncomputable def f_has_all : FSem := runF 3 2 D_has_all

/-! greater_searches : slots 0 searches, 1 greater, 2 at, 3 search, 4 k, 5 other -/
abbrev s_greater_searches : Stmt := top 3
noncomputable def D_greater_searches : DS :=
    (sSeq (sAsg (dLst true aNil) (gName 1))
    (sSeq (sFor (iEnumP (dVar 0)) (gTup [(gName 2), (gName 3)])
    (sExpr (dMetL mAppend (dVar 1) (aCons (dLc false [4, 5] (iEnumP (dVar 0)) (gTup [(gName 4), (gName 5)]) (tAnd (tVal (dBin (cmpEq true) (dVar 4) (dVar 2))) (tVal (dCall f_has_all false (aCons (dVar 5) (aCons (dVar 3) aNil))))) (dVar 4)) aNil))))
    (sRet (dVar 1))))
@[irreducible] noncomputable def f_greater_searches : FSem := runF 6 1 D_greater_searches

/-! free_target : slots 0 greater, 1 before, 2 start, 3 came, 4 queue, 5 at, 6 target -/
abbrev s_free_target : Stmt := top 4
noncomputable def D_free_target : DS :=
    (sSeq (sAsg dDctI (gName 3))
    (sSeq (sAsg (dLst true (aCons (dVar 2) aNil)) (gName 4))
    (sSeq (sAsg (dCst (.int 0)) (gName 5))
    (sSeq (sWhile (tVal (dBin cmpLt (dVar 5) (dApp (bLen) (aCons (dVar 4) aNil))))
    (sSeq (sFor (iSeq (dBin opIx (dVar 0) (dBin opIx (dVar 4) (dVar 5)))) (gName 6)
      (sIf (tVal (dBin (cmpIn true) (dVar 6) (dVar 3)))
        (sSeq (sAsg (dBin opIx (dVar 4) (dVar 5)) (gSub (dVar 3) (dVar 6)))
          (sSeq (sIf (tVal (dBin (cmpIn true) (dVar 6) (dVar 1)))
          (sRet (dTup (aCons (dVar 6) (aCons (dFrz 3) aNil))))
          sPass)
          (sExpr (dMetL mAppend (dVar 4) (aCons (dBin opIx (dVar 1) (dVar 6)) aNil)))))
        sPass))
      (sAsg (dBin (opAdd false) (dVar 5) (dCst (.int 1))) (gName 5))))
    (sRet (dTup (aCons (dCst .non) (aCons (dFrz 3) aNil))))))))
@[irreducible] noncomputable def f_free_target : FSem := runF 7 3 D_free_target

/-! greatest_matching : slots 0 greater, 1 after, 2 before, 3 start, 4 target, 5 came, 6 source, 7 earlier -/
abbrev s_greatest_matching : Stmt := top 5
noncomputable def D_greatest_matching : DS :=
    (sSeq (sAsg dDctI (gName 1))
    (sSeq (sAsg dDctI (gName 2))
    (sSeq (sFor (iRng1 (dApp (bLen) (aCons (dVar 0) aNil))) (gName 3)
    (sSeq (sAsg (dCall f_free_target false (aCons (dVar 0) (aCons (dVar 2) (aCons (dVar 3) aNil)))) (gTup [(gName 4), (gName 5)]))
      (sWhile (tVal (dUn (cmpIsN true) (dVar 4)))
      (sSeq (sAsg (dBin opIx (dVar 5) (dVar 4)) (gName 6))
        (sSeq (sAsg (dGet1 (dVar 1) (dVar 6)) (gName 7))
        (sSeq (sAsg (dVar 4) (gSub (dVar 1) (dVar 6)))
        (sSeq (sAsg (dVar 6) (gSub (dVar 2) (dVar 4)))
        (sAsg (dVar 7) (gName 4)))))))))
    (sRet (dTup (aCons (dFrz 1) (aCons (dFrz 2) aNil)))))))
@[irreducible] noncomputable def f_greatest_matching : FSem := runF 8 1 D_greatest_matching

/-! order_along : slots 0 searches, 1 after, 2 start, 3 order, 4 at, 5 column -/
abbrev s_order_along : Stmt := top 6
noncomputable def D_order_along : DS :=
    (sSeq (sAsg (dLst false aNil) (gName 3))
    (sSeq (sAsg (dVar 2) (gName 4))
    (sSeq (sWhile (tVal (dUn (cmpIsN true) (dVar 4)))
    (sSeq (sAsg (dBin (opAdd false) (dVar 3) (dLc false [5] (iSeq (dBin opIx (dVar 0) (dVar 4))) (gName 5) (tVal (dBin (cmpIn true) (dVar 5) (dVar 3))) (dVar 5))) (gName 3))
      (sAsg (dGet1 (dVar 1) (dVar 4)) (gName 4))))
    (sRet (dApp (bTuple) (aCons (dVar 3) aNil))))))
@[irreducible] noncomputable def f_order_along : FSem := runF 6 3 D_order_along

/-! searches_apart : slots 0 searches, 1 greater, 2 after, 3 before, 4 reached, 5 met, 6 left, 7 k, 8 source, 9 target, 10 search -/
abbrev s_searches_apart : Stmt := top 7
noncomputable def D_searches_apart : DS :=
    (sSeq (sAsg dDctI (gName 4))
    (sSeq (sAsg dDctI (gName 5))
    (sSeq (sAsg (dLc true [7] (iRng1 (dApp (bLen) (aCons (dVar 0) aNil))) (gName 7) (tVal (dBin (cmpIn true) (dVar 7) (dVar 2))) (dVar 7)) (gName 6))
    (sSeq (sWhile (tTru (dVar 6))
    (sSeq (sAsg (dMetL mPop (dVar 6) aNil) (gName 8))
      (sIf (tVal (dBin (cmpIn true) (dVar 8) (dVar 4)))
      (sSeq (sAsg (dCst (.bl true)) (gSub (dVar 4) (dVar 8)))
        (sFor (iSeq (dBin opIx (dVar 1) (dVar 8))) (gName 9)
        (sSeq (sAsg (dCst (.bl true)) (gSub (dVar 5) (dVar 9)))
          (sExpr (dMetL mAppend (dVar 6) (aCons (dBin opIx (dVar 3) (dVar 9)) aNil))))))
      sPass)))
    (sRet (dLc true [7, 10] (iEnumP (dVar 0)) (gTup [(gName 7), (gName 10)]) (tAnd (tVal (dBin (cmpIn false) (dVar 7) (dVar 4))) (tVal (dBin (cmpIn true) (dVar 7) (dVar 5)))) (dVar 10)))))))
@[irreducible] noncomputable def f_searches_apart : FSem := runF 11 4 D_searches_apart

/-! least_orders : slots 0 searches, 1 greater, 2 after, 3 before, 4 orders, 5 k -/
abbrev s_least_orders : Stmt := top 8
noncomputable def D_least_orders : DS :=
    (sSeq (sAsg (dCall f_greater_searches false (aCons (dVar 0) aNil)) (gName 1))
    (sSeq (sAsg (dCall f_greatest_matching false (aCons (dVar 1) aNil)) (gTup [(gName 2), (gName 3)]))
    (sSeq (sAsg (dLc true [5] (iRng1 (dApp (bLen) (aCons (dVar 0) aNil))) (gName 5) (tVal (dBin (cmpIn true) (dVar 5) (dVar 3))) (dCall f_order_along false (aCons (dVar 0) (aCons (dVar 2) (aCons (dVar 5) aNil))))) (gName 4))
    (sRet (dTup (aCons (dVar 4) (aCons (dCall f_searches_apart true (aCons (dVar 0) (aCons (dVar 1) (aCons (dVar 2) (aCons (dVar 3) aNil))))) aNil)))))))
@[irreducible] noncomputable def f_least_orders : FSem := runK 6 1 D_least_orders

/-! serves : slots 0 order, 1 search, 2 first -/
abbrev s_serves : Stmt := top 9
noncomputable def D_serves : DS :=
    (sSeq (sAsg (dSl false (dVar 0) oNone (oSome (dApp (bLen) (aCons (dVar 1) aNil)))) (gName 2))
    (sRet (dAnd (dBin (cmpEq false) (dApp (bLen) (aCons (dVar 2) aNil)) (dApp (bLen) (aCons (dVar 1) aNil))) (dCall f_has_all false (aCons (dVar 2) (aCons (dVar 1) aNil))))))
@[irreducible] noncomputable def f_serves : FSem := runF 3 2 D_serves

/-! is_order : slots 0 order, 1 at, 2 column -/
abbrev s_is_order : Stmt := top 10
noncomputable def D_is_order : DS :=
    (sSeq (sFor (iEnumP (dVar 0)) (gTup [(gName 1), (gName 2)])
    (sIf (tOr (tVal (dBin (cmpIn true) (dVar 2) (dCst (.tup [.int 0, .int 1, .int 2, .int 3, .int 4, .int 5])))) (tVal (dBin (cmpIn false) (dVar 2) (dSl false (dVar 0) oNone (oSome (dVar 1))))))
      (sRet (dCst (.bl false)))
      sPass))
    (sRet (dCst (.bl true))))
@[irreducible] noncomputable def f_is_order : FSem := runF 3 1 D_is_order

/-! are_apart : slots 0 searches, 1 apart, 2 at, 3 search, 4 k, 5 other -/
abbrev s_are_apart : Stmt := top 11
noncomputable def D_are_apart : DS :=
    (sSeq (sFor (iEnumP (dVar 1)) (gTup [(gName 2), (gName 3)])
    (sSeq (sIf (tVal (dBin (cmpIn true) (dVar 3) (dVar 0)))
      (sRet (dCst (.bl false)))
      sPass)
      (sFor (iEnumP (dVar 1)) (gTup [(gName 4), (gName 5)])
      (sIf (tAnd (tVal (dBin (cmpEq true) (dVar 4) (dVar 2))) (tVal (dCall f_has_all false (aCons (dVar 3) (aCons (dVar 5) aNil)))))
        (sRet (dCst (.bl false)))
        sPass))))
    (sRet (dCst (.bl true))))
@[irreducible] noncomputable def f_are_apart : FSem := runF 6 2 D_are_apart

/-! shows_orders : slots 0 searches, 1 orders, 2 apart, 3 order, 4 search -/
abbrev s_shows_orders : Stmt := top 12
noncomputable def D_shows_orders : DS :=
    (sSeq (sFor (iSeq (dVar 1)) (gName 3)
    (sIf (tNot (tVal (dCall f_is_order false (aCons (dVar 3) aNil))))
      (sRet (dCst (.bl false)))
      sPass))
    (sSeq (sFor (iSeq (dVar 0)) (gName 4)
    (sIf (tNot (tVal (dApp (bAny) (aCons (dLc false [3] (iSeq (dVar 1)) (gName 3) tYes (dCall f_serves false (aCons (dVar 3) (aCons (dVar 4) aNil)))) aNil))))
      (sRet (dCst (.bl false)))
      sPass))
    (sRet (dAnd (dCall f_are_apart false (aCons (dVar 0) (aCons (dVar 2) aNil))) (dBin (cmpEq false) (dApp (bLen) (aCons (dVar 1) aNil)) (dApp (bLen) (aCons (dVar 2) aNil)))))))
@[irreducible] noncomputable def f_shows_orders : FSem := runF 5 3 D_shows_orders

/-! _law_mix : slots 0 number, 1 k -/
abbrev s_law_mix : Stmt := top 14
noncomputable def D_law_mix : DS :=
    (sSeq (sAsg (dBin opMod (dApp (bInt) (aCons (dBin (opAdd false) (dBin (opAdd false) (dBin opMul (dVar 0) (dCst (.int 48271))) (dBin opMul (dVar 1) (dCst (.int 69621)))) (dCst (.int 11))) aNil)) (dCst (.int 2147483647))) (gName 0))
    (sSeq (sAsg (dBin opMod (dApp (bInt) (aCons (dBin (opAdd false) (dBin (opAdd false) (dBin opMul (dVar 0) (dVar 0)) (dBin opMul (dVar 1) (dCst (.int 7919)))) (dCst (.int 5))) aNil)) (dCst (.int 2147483629))) (gName 0))
    (sRet (dBin opMod (dApp (bInt) (aCons (dBin (opAdd false) (dBin (opAdd false) (dBin opMul (dVar 0) (dVar 0)) (dBin opMul (dVar 1) (dCst (.int 40692)))) (dCst (.int 3))) aNil)) (dCst (.int 2147483587))))))
@[irreducible] noncomputable def f_law_mix : FSem := runF 2 2 D_law_mix

/-! _law_pool : slots 0 script, 1 pool, 2 state, 3 k, 4 cell, 5 turn -/
abbrev s_law_pool : Stmt := top 15
noncomputable def D_law_pool : DS :=
    (sSeq (sAsg (dLst true aNil) (gName 1))
    (sSeq (sAsg (dApp (bLen) (aCons (dVar 0) aNil)) (gName 2))
    (sSeq (sFor (iRng1 (dApp (bMin) (aCons (dApp (bLen) (aCons (dVar 0) aNil)) (aCons (dCst (.int 63)) aNil)))) (gName 3)
    (sSeq (sAsg (dApp (bAbs) (aCons (dApp (bInt) (aCons (dBin opIx (dVar 0) (dVar 3)) aNil)) aNil)) (gName 4))
      (sSeq (sAsg (dCall f_law_mix false (aCons (dBin (opAdd false) (dVar 2) (dBin opMod (dApp (bInt) (aCons (dVar 4) aNil)) (dCst (.int 1000000007)))) (aCons (dVar 3) aNil))) (gName 2))
      (sIf (tVal (dBin (cmpI fun i j => decide (j ≤ i)) (dVar 4) (dBin opPow (dCst (.int 10)) (dCst (.int 18)))))
      (sFor (iRng1 (dCst (.int 60))) (gName 5)
        (sIf (tVal (dBin (cmpI fun i j => decide (j < i)) (dVar 4) (dCst (.int 0))))
          (sSeq (sExpr (dMetL mAppend (dVar 1) (aCons (dBin opMod (dApp (bInt) (aCons (dVar 4) aNil)) (dCst (.int 1000))) aNil)))
            (sAsg (dBin opDiv (dVar 4) (dCst (.int 1000))) (gName 4)))
          sPass))
      (sFor (iRng1 (dCst (.int 3))) (gName 5)
        (sExpr (dMetL mAppend (dVar 1) (aCons (dCall f_law_mix false (aCons (dBin (opAdd false) (dVar 4) (dBin opMul (dCst (.int 65537)) (dVar 3))) (aCons (dVar 5) aNil))) aNil))))))))
    (sSeq (sExpr (dMetL mReverse (dVar 1) aNil))
    (sRet (dBin (opAdd true) (dLst false (aCons (dVar 2) (aCons (dCst (.int 0)) aNil))) (dVar 1)))))))
@[irreducible] noncomputable def f_law_pool : FSem := runF 6 1 D_law_pool

/-! _law_draw : slots 0 pool, 1 limit -/
abbrev s_law_draw : Stmt := top 16
noncomputable def D_law_draw : DS :=
    (sSeq (sIf (tVal (dBin (cmpI fun i j => decide (j < i)) (dApp (bLen) (aCons (dVar 0) aNil)) (dCst (.int 2))))
    (sRet (dBin opMod (dApp (bInt) (aCons (dMetL mPop (dVar 0) aNil) aNil)) (dVar 1)))
    sPass)
    (sSeq (sAsg (dBin (opAdd false) (dBin opIx (dVar 0) (dCst (.int 1))) (dCst (.int 1))) (gSub (dVar 0) (dCst (.int 1))))
    (sRet (dBin opMod (dApp (bInt) (aCons (dBin opDiv (dCall f_law_mix false (aCons (dBin (opAdd false) (dBin opIx (dVar 0) (dCst (.int 0))) (dBin opMul (dCst (.int 31)) (dBin opIx (dVar 0) (dCst (.int 1))))) (aCons (dBin opIx (dVar 0) (dCst (.int 1))) aNil))) (dCst (.int 3))) aNil)) (dVar 1)))))
@[irreducible] noncomputable def f_law_draw : FSem := runF 2 2 D_law_draw

/-! _law_pick : slots 0 pool, 1 rows -/
abbrev s_law_pick : Stmt := top 17
noncomputable def D_law_pick : DS :=
    (sRet (dBin opIx (dVar 1) (dCall f_law_draw false (aCons (dVar 0) (aCons (dApp (bLen) (aCons (dVar 1) aNil)) aNil)))))
@[irreducible] noncomputable def f_law_pick : FSem := runF 2 2 D_law_pick

/-! _law_whole : slots 0 number -/
abbrev s_law_whole : Stmt := top 18
noncomputable def D_law_whole : DS :=
    (sRet (dAnd (dUn (bIsi .int) (dVar 0)) (dUn opNot (dUn (bIsi .bool) (dVar 0)))))
@[irreducible] noncomputable def f_law_whole : FSem := runF 1 1 D_law_whole

/-! _law_plain : slots 0 key, 1 part -/
abbrev s_law_plain : Stmt := top 20
noncomputable def D_law_plain (self : FSem) : DS :=
    (sSeq (sIf (tVal (dUn (bIsi .tuple) (dVar 0)))
    (sRet (dBin (cmpIn true) (dCst (.bl false)) (dLc false [1] (iSeq (dVar 0)) (gName 1) tYes (dCall self false (aCons (dVar 1) aNil)))))
    sPass)
    (sRet (dOr (dUn (bIsi .str) (dVar 0)) (dCall f_law_whole false (aCons (dVar 0) aNil)))))
noncomputable def r_law_plain : Nat → FSem
  | 0 => noSem
  | n + 1 => runF 2 1 (D_law_plain (r_law_plain n))
@[irreducible] noncomputable def f_law_plain (n : Nat) : FSem := r_law_plain n

/-! _law_same : slots 0 told, 1 due, 2 key, 3 k -/
abbrev s_law_same : Stmt := top 19
noncomputable def D_law_same (self : FSem) : DS :=
    (sSeq (sIf (tVal (dUn (cmpIsN false) (dVar 1)))
    (sRet (dUn (cmpIsN false) (dVar 0)))
    sPass)
    (sSeq (sIf (tVal (dUn (bIsi .bool) (dVar 1)))
    (sRet (dAnd (dUn (bIsi .bool) (dVar 0)) (dBin (cmpEq false) (dVar 0) (dVar 1))))
    sPass)
    (sSeq (sIf (tVal (dUn (bIsi .int) (dVar 1)))
    (sRet (dAnd (dCall f_law_whole false (aCons (dVar 0) aNil)) (dBin (cmpEq false) (dVar 0) (dVar 1))))
    sPass)
    (sSeq (sIf (tVal (dUn (bIsi .str) (dVar 1)))
    (sRet (dAnd (dUn (bIsi .str) (dVar 0)) (dBin (cmpEq false) (dVar 0) (dVar 1))))
    sPass)
    (sSeq (sIf (tVal (dUn (bIsi .dict) (dVar 1)))
    (sSeq (sIf (tOr (tNot (tVal (dUn (bIsi .dict) (dVar 0)))) (tVal (dBin (cmpEq true) (dApp (bLen) (aCons (dVar 0) aNil)) (dApp (bLen) (aCons (dVar 1) aNil)))))
      (sRet (dCst (.bl false)))
      sPass)
      (sSeq (sFor (iSeq (dVar 0)) (gName 2)
      (sIf (tOr (tVal (dBin (cmpIn true) (dVar 2) (dVar 1))) (tOr (tNot (tVal (dCall self false (aCons (dBin opIx (dVar 0) (dVar 2)) (aCons (dBin opIx (dVar 1) (dVar 2)) aNil))))) (tNot (tVal (dCall (f_law_plain 6) false (aCons (dVar 2) aNil))))))
        (sRet (dCst (.bl false)))
        sPass))
      (sRet (dCst (.bl true)))))
    sPass)
    (sSeq (sIf (tOr (tVal (dBin (cmpEq true) (dUn (bIsi .list) (dVar 1)) (dUn (bIsi .list) (dVar 0)))) (tVal (dBin (cmpEq true) (dUn (bIsi .tuple) (dVar 1)) (dUn (bIsi .tuple) (dVar 0)))))
    (sRet (dCst (.bl false)))
    sPass)
    (sSeq (sIf (tVal (dBin (cmpEq true) (dApp (bLen) (aCons (dVar 0) aNil)) (dApp (bLen) (aCons (dVar 1) aNil))))
    (sRet (dCst (.bl false)))
    sPass)
    (sSeq (sFor (iRng1 (dApp (bLen) (aCons (dVar 1) aNil))) (gName 3)
    (sIf (tNot (tVal (dCall self false (aCons (dBin opIx (dVar 0) (dVar 3)) (aCons (dBin opIx (dVar 1) (dVar 3)) aNil)))))
      (sRet (dCst (.bl false)))
      sPass))
    (sRet (dCst (.bl true)))))))))))
noncomputable def r_law_same : Nat → FSem
  | 0 => noSem
  | n + 1 => runF 4 2 (D_law_same (r_law_same n))
@[irreducible] noncomputable def f_law_same (n : Nat) : FSem := r_law_same n

/-! _law_columns : slots 0 number, 1 c -/
abbrev s_law_columns : Stmt := top 21
noncomputable def D_law_columns : DS :=
    (sRet (dApp (bTuple) (aCons (dLc false [1] (iRng1 (dCst (.int 6))) (gName 1) (tVal (dBin (cmpEq false) (dBin opMod (dApp (bInt) (aCons (dBin opDiv (dVar 0) (dBin opIx (dLst false (aCons (dCst (.int 1)) (aCons (dCst (.int 2)) (aCons (dCst (.int 4)) (aCons (dCst (.int 8)) (aCons (dCst (.int 16)) (aCons (dCst (.int 32)) aNil))))))) (dVar 1))) aNil)) (dCst (.int 2))) (dCst (.int 1)))) (dVar 1)) aNil)))
@[irreducible] noncomputable def f_law_columns : FSem := runF 2 1 D_law_columns

/-! _law_shuffled : slots 0 pool, 1 columns, 2 others, 3 told, 4 turn -/
abbrev s_law_shuffled : Stmt := top 22
noncomputable def D_law_shuffled : DS :=
    (sSeq (sAsg (dApp (bList true) (aCons (dVar 1) aNil)) (gName 2))
    (sSeq (sAsg (dTup aNil) (gName 3))
    (sSeq (sFor (iRng1 (dApp (bLen) (aCons (dVar 1) aNil))) (gName 4)
    (sAsg (dBin (opAdd false) (dVar 3) (dTup (aCons (dMetL mPopAt (dVar 2) (aCons (dCall f_law_draw false (aCons (dVar 0) (aCons (dApp (bLen) (aCons (dVar 2) aNil)) aNil))) aNil)) aNil))) (gName 3)))
    (sRet (dVar 3)))))
@[irreducible] noncomputable def f_law_shuffled : FSem := runF 5 2 D_law_shuffled

/-! _law_free : slots 0 pool, 1 many, 2 numbers, 3 k, 4 number, 5 turn -/
abbrev s_law_free : Stmt := top 23
noncomputable def D_law_free : DS :=
    (sSeq (sAsg (dLst true aNil) (gName 2))
    (sSeq (sFor (iRng1 (dVar 1)) (gName 3)
    (sSeq (sAsg (dCall f_law_draw false (aCons (dVar 0) (aCons (dCst (.int 64)) aNil))) (gName 4))
      (sSeq (sFor (iRng1 (dCst (.int 64))) (gName 5)
      (sSeq (sIf (tVal (dBin (cmpIn true) (dVar 4) (dVar 2)))
        sBreak
        sPass)
        (sAsg (dBin opMod (dApp (bInt) (aCons (dBin (opAdd false) (dVar 4) (dCst (.int 1))) aNil)) (dCst (.int 64))) (gName 4))))
      (sExpr (dMetL mAppend (dVar 2) (aCons (dVar 4) aNil))))))
    (sRet (dLc false [4] (iSeq (dVar 2)) (gName 4) tYes (dCall f_law_columns false (aCons (dVar 4) aNil))))))
@[irreducible] noncomputable def f_law_free : FSem := runF 6 2 D_law_free

/-! _law_known : slots 0 pool, 1 size, 2 level, 3 number, 4 orders, 5 apart, 6 k, 7 search, 8 behind, 9 c, 10 searches, 11 order, 12 found, 13 at -/
abbrev s_law_known : Stmt := top 24
noncomputable def D_law_known : DS :=
    (sSeq (sAsg (dCall f_law_pick false (aCons (dVar 0) (aCons (dLst false (aCons (dCst (.int 2)) (aCons (dCst (.int 1)) (aCons (dCst (.int 3)) (aCons (dCst (.int 4)) (aCons (dCst (.int 2)) (aCons (dCst (.int 5)) (aCons (dCst (.int 0)) (aCons (dCst (.int 6)) aNil))))))))) aNil))) (gName 1))
    (sSeq (sAsg (dLc true [3] (iRng1 (dCst (.int 64))) (gName 3) (tVal (dBin (cmpEq false) (dApp (bLen) (aCons (dCall f_law_columns false (aCons (dVar 3) aNil)) aNil)) (dVar 1))) (dCall f_law_columns false (aCons (dVar 3) aNil))) (gName 2))
    (sSeq (sAsg (dLst true aNil) (gName 4))
    (sSeq (sAsg (dLst true aNil) (gName 5))
    (sSeq (sFor (iRng1 (dBin (opAdd false) (dCst (.int 1)) (dCall f_law_draw false (aCons (dVar 0) (aCons (dApp (bMin) (aCons (dCst (.int 8)) (aCons (dApp (bLen) (aCons (dVar 2) aNil)) aNil))) aNil))))) (gName 6)
    (sSeq (sAsg (dMetL mPopAt (dVar 2) (aCons (dCall f_law_draw false (aCons (dVar 0) (aCons (dApp (bLen) (aCons (dVar 2) aNil)) aNil))) aNil)) (gName 7))
      (sSeq (sAsg (dCall f_law_shuffled false (aCons (dVar 0) (aCons (dLc false [9] (iRng1 (dCst (.int 6))) (gName 9) (tVal (dBin (cmpIn true) (dVar 9) (dVar 7))) (dVar 9)) aNil))) (gName 8))
      (sSeq (sExpr (dMetL mAppend (dVar 4) (aCons (dBin (opAdd false) (dCall f_law_shuffled false (aCons (dVar 0) (aCons (dVar 7) aNil))) (dSl false (dVar 8) oNone (oSome (dCall f_law_draw false (aCons (dVar 0) (aCons (dBin (opAdd false) (dApp (bLen) (aCons (dVar 8) aNil)) (dCst (.int 1))) aNil)))))) aNil)))
      (sExpr (dMetL mAppend (dVar 5) (aCons (dVar 7) aNil)))))))
    (sSeq (sAsg (dApp (bList true) (aCons (dVar 5) aNil)) (gName 10))
    (sSeq (sFor (iSeq (dVar 4)) (gName 11)
    (sFor (iRng1 (dBin (opAdd false) (dApp (bLen) (aCons (dVar 11) aNil)) (dCst (.int 1)))) (gName 6)
      (sSeq (sAsg (dApp (bTuple) (aCons (dApp (bSorted false) (aCons (dSl false (dVar 11) oNone (oSome (dVar 6))) aNil)) aNil)) (gName 12))
        (sIf (tAnd (tVal (dBin (cmpEq false) (dCall f_law_draw false (aCons (dVar 0) (aCons (dCst (.int 2)) aNil))) (dCst (.int 0)))) (tAnd (tVal (dBin (cmpIn true) (dVar 12) (dVar 10))) (tVal (dBin cmpLt (dApp (bLen) (aCons (dVar 10) aNil)) (dCst (.int 40))))))
        (sExpr (dMetL mAppend (dVar 10) (aCons (dVar 12) aNil)))
        sPass))))
    (sSeq (sAsg (dCall f_law_draw false (aCons (dVar 0) (aCons (dApp (bLen) (aCons (dVar 10) aNil)) aNil))) (gName 13))
    (sRet (dTup (aCons (dBin (opAdd false) (dSl false (dVar 10) (oSome (dVar 13)) oNone) (dSl false (dVar 10) oNone (oSome (dVar 13)))) (aCons (dFrz 4) (aCons (dFrz 5) aNil)))))))))))))
@[irreducible] noncomputable def f_law_known : FSem := runF 14 1 D_law_known

/-! _law_holds : slots 0 one, 1 other, 2 column -/
abbrev s_law_holds : Stmt := top 25
noncomputable def D_law_holds : DS :=
    (sRet (dBin (cmpIn true) (dCst (.bl false)) (dLc false [2] (iSeq (dVar 1)) (gName 2) tYes (dBin (cmpIn false) (dVar 2) (dVar 0)))))
@[irreducible] noncomputable def f_law_holds : FSem := runF 3 2 D_law_holds

/-! _law_served : slots 0 search, 1 orders, 2 order -/
abbrev s_law_served : Stmt := top 26
noncomputable def D_law_served : DS :=
    (sSeq (sFor (iSeq (dVar 1)) (gName 2)
    (sIf (tVal (dBin (cmpEq false) (dApp (bSorted false) (aCons (dSl false (dVar 2) oNone (oSome (dApp (bLen) (aCons (dVar 0) aNil)))) aNil)) (dApp (bList false) (aCons (dVar 0) aNil))))
      (sRet (dCst (.bl true)))
      sPass))
    (sRet (dCst (.bl false))))
@[irreducible] noncomputable def f_law_served : FSem := runF 3 2 D_law_served

/-! _law_judged : slots 0 searches, 1 orders, 2 apart, 3 order, 4 k, 5 search, 6 other -/
abbrev s_law_judged : Stmt := top 27
noncomputable def D_law_judged : DS :=
    (sSeq (sFor (iSeq (dVar 1)) (gName 3)
    (sIf (tVal (dBin (cmpIn false) (dCst (.bl true)) (dLc false [4] (iRng1 (dApp (bLen) (aCons (dVar 3) aNil))) (gName 4) tYes (dOr (dBin (cmpIn false) (dBin opIx (dVar 3) (dVar 4)) (dSl false (dVar 3) oNone (oSome (dVar 4)))) (dUn opNot (dChain (cmpI fun i j => decide (i ≤ j)) (cmpI fun i j => decide (i ≤ j)) (dCst (.int 0)) (dBin opIx (dVar 3) (dVar 4)) (dCst (.int 5))))))))
      (sRet (dCst (.bl false)))
      sPass))
    (sSeq (sIf (tVal (dBin (cmpIn false) (dCst (.bl false)) (dLc false [5] (iSeq (dVar 0)) (gName 5) tYes (dCall f_law_served false (aCons (dVar 5) (aCons (dVar 1) aNil))))))
    (sRet (dCst (.bl false)))
    sPass)
    (sSeq (sFor (iRng1 (dApp (bLen) (aCons (dVar 2) aNil))) (gName 4)
    (sSeq (sIf (tVal (dBin (cmpIn true) (dBin opIx (dVar 2) (dVar 4)) (dVar 0)))
      (sRet (dCst (.bl false)))
      sPass)
      (sIf (tVal (dBin (cmpIn false) (dCst (.bl true)) (dLc false [6] (iSeq (dSl false (dVar 2) oNone (oSome (dVar 4)))) (gName 6) tYes (dOr (dCall f_law_holds false (aCons (dBin opIx (dVar 2) (dVar 4)) (aCons (dVar 6) aNil))) (dCall f_law_holds false (aCons (dVar 6) (aCons (dBin opIx (dVar 2) (dVar 4)) aNil)))))))
      (sRet (dCst (.bl false)))
      sPass)))
    (sRet (dBin (cmpEq false) (dApp (bLen) (aCons (dVar 1) aNil)) (dApp (bLen) (aCons (dVar 2) aNil)))))))
@[irreducible] noncomputable def f_law_judged : FSem := runF 7 3 D_law_judged

/-! _law_kinds : slots 0 told, 1 rows, 2 row, 3 column -/
abbrev s_law_kinds : Stmt := top 28
noncomputable def D_law_kinds : DS :=
    (sSeq (sIf (tOr (tNot (tVal (dUn (bIsi .tuple) (dVar 0)))) (tVal (dBin (cmpEq true) (dApp (bLen) (aCons (dVar 0) aNil)) (dCst (.int 2)))))
    (sRet (dCst (.bl false)))
    sPass)
    (sSeq (sFor (iSeq (dVar 0)) (gName 1)
    (sSeq (sIf (tOr (tNot (tVal (dUn (bIsi .list) (dVar 1)))) (tVal (dBin (cmpIn false) (dCst (.bl false)) (dLc false [2] (iSeq (dVar 1)) (gName 2) tYes (dUn (bIsi .tuple) (dVar 2))))))
      (sRet (dCst (.bl false)))
      sPass)
      (sFor (iSeq (dVar 1)) (gName 2)
      (sIf (tVal (dBin (cmpIn false) (dCst (.bl false)) (dLc false [3] (iSeq (dVar 2)) (gName 3) tYes (dCall f_law_whole false (aCons (dVar 3) aNil)))))
        (sRet (dCst (.bl false)))
        sPass))))
    (sRet (dCst (.bl true)))))
@[irreducible] noncomputable def f_law_kinds : FSem := runF 4 1 D_law_kinds

/-! _law_shown : slots 0 searches, 1 orders, 2 apart, 3 due, 4 one, 5 two, 6 three -/
abbrev s_law_shown : Stmt := top 29
noncomputable def D_law_shown : DS :=
    (sSeq (sAsg (dApp (bList false) (aCons (dVar 0) aNil)) (gName 4))
    (sSeq (sAsg (dApp (bList false) (aCons (dVar 1) aNil)) (gName 5))
    (sSeq (sAsg (dApp (bList false) (aCons (dVar 2) aNil)) (gName 6))
    (sSeq (sIf (tNot (tVal (dCall (f_law_same 6) false (aCons (dCall f_shows_orders false (aCons (dVar 4) (aCons (dVar 5) (aCons (dVar 6) aNil)))) (aCons (dVar 3) aNil)))))
    (sRet (dCst (.bl false)))
    sPass)
    (sRet (dAnd (dCall (f_law_same 6) false (aCons (dVar 4) (aCons (dVar 0) aNil))) (dAnd (dCall (f_law_same 6) false (aCons (dVar 5) (aCons (dVar 1) aNil))) (dCall (f_law_same 6) false (aCons (dVar 6) (aCons (dVar 2) aNil))))))))))
@[irreducible] noncomputable def f_law_shown : FSem := runF 7 4 D_law_shown

/-! _law_spoilt : slots 0 pool, 1 searches, 2 orders, 3 apart, 4 at, 5 order, 6 ahead, 7 others, 8 by, 9 search, 10 strange, 11 k, 12 pairs, 13 one, 14 first, 15 last -/
abbrev s_law_spoilt : Stmt := top 30
noncomputable def D_law_spoilt : DS :=
    (sSeq (sAsg (dCall f_law_draw false (aCons (dVar 0) (aCons (dApp (bLen) (aCons (dVar 2) aNil)) aNil))) (gName 4))
    (sSeq (sAsg (dBin opIx (dVar 2) (dVar 4)) (gName 5))
    (sSeq (sAsg (dSl false (dVar 2) oNone (oSome (dVar 4))) (gName 6))
    (sSeq (sAsg (dSl false (dVar 2) (oSome (dBin (opAdd false) (dVar 4) (dCst (.int 1)))) oNone) (gName 7))
    (sSeq (sAsg (dCall f_law_draw false (aCons (dVar 0) (aCons (dApp (bLen) (aCons (dVar 3) aNil)) aNil))) (gName 8))
    (sSeq (sAsg (dCall f_law_pick false (aCons (dVar 0) (aCons (dVar 1) aNil))) (gName 9))
    (sSeq (sAsg (dApp (bTuple) (aCons (dLc false [11] (iRng1 (dCall f_law_draw false (aCons (dVar 0) (aCons (dCst (.int 5)) aNil)))) (gName 11) tYes (dBin opSub (dCall f_law_draw false (aCons (dVar 0) (aCons (dCst (.int 9)) aNil))) (dCst (.int 1)))) aNil)) (gName 10))
    (sSeq (sAsg (dLst true (aCons (dTup (aCons (dBin (opAdd false) (dVar 6) (dVar 7)) (aCons (dVar 3) aNil))) (aCons (dTup (aCons (dBin (opAdd false) (dVar 2) (dLst false (aCons (dVar 10) aNil))) (aCons (dVar 3) aNil))) (aCons (dTup (aCons (dBin (opAdd false) (dVar 2) (dLst false (aCons (dVar 5) aNil))) (aCons (dVar 3) aNil))) (aCons (dTup (aCons (dLst false aNil) (aCons (dLst false aNil) aNil))) aNil))))) (gName 12))
    (sSeq (sFor (iSeq (dLst false (aCons (dBin (opAdd false) (dBin (opAdd false) (dSl false (dVar 5) (oSome (dCst (.int 1))) (oSome (dCst (.int 2)))) (dSl false (dVar 5) oNone (oSome (dCst (.int 1))))) (dSl false (dVar 5) (oSome (dCst (.int 2))) oNone)) (aCons (dBin (opAdd false) (dVar 5) (dSl false (dVar 5) oNone (oSome (dCst (.int 1))))) (aCons (dBin (opAdd false) (dVar 5) (dTup (aCons (dCst (.int 6)) aNil))) (aCons (dBin (opAdd false) (dVar 5) (dTup (aCons (dUn opNeg (dCst (.int 1))) aNil))) (aCons (dSl false (dVar 5) oNone (oSome (dBin opSub (dApp (bLen) (aCons (dVar 5) aNil)) (dCst (.int 1))))) (aCons (dVar 10) aNil)))))))) (gName 13)
    (sExpr (dMetL mAppend (dVar 12) (aCons (dTup (aCons (dBin (opAdd false) (dBin (opAdd false) (dVar 6) (dLst false (aCons (dVar 13) aNil))) (dVar 7)) (aCons (dVar 3) aNil))) aNil))))
    (sSeq (sAsg (dSl false (dVar 3) oNone (oSome (dVar 8))) (gName 14))
    (sSeq (sAsg (dSl false (dVar 3) (oSome (dBin (opAdd false) (dVar 8) (dCst (.int 1)))) oNone) (gName 15))
    (sSeq (sFor (iSeq (dLst false (aCons (dVar 9) (aCons (dRvT (dBin opIx (dVar 3) (dVar 8))) (aCons (dVar 10) aNil))))) (gName 13)
    (sSeq (sExpr (dMetL mAppend (dVar 12) (aCons (dTup (aCons (dVar 2) (aCons (dBin (opAdd false) (dBin (opAdd false) (dVar 14) (dLst false (aCons (dVar 13) aNil))) (dVar 15)) aNil))) aNil)))
      (sExpr (dMetL mAppend (dVar 12) (aCons (dTup (aCons (dBin (opAdd false) (dVar 2) (dLst false (aCons (dVar 5) aNil))) (aCons (dBin (opAdd false) (dVar 3) (dLst false (aCons (dVar 13) aNil))) aNil))) aNil)))))
    (sSeq (sExpr (dMetL mAppend (dVar 12) (aCons (dTup (aCons (dVar 2) (aCons (dBin (opAdd false) (dVar 14) (dVar 15)) aNil))) aNil)))
    (sSeq (sExpr (dMetL mAppend (dVar 12) (aCons (dTup (aCons (dBin (opAdd false) (dVar 2) (dLst false (aCons (dVar 5) aNil))) (aCons (dBin (opAdd false) (dVar 3) (dLst false (aCons (dBin opIx (dVar 3) (dVar 8)) aNil))) aNil))) aNil)))
    (sSeq (sExpr (dMetL mAppend (dVar 12) (aCons (dTup (aCons (dBin (opAdd false) (dVar 6) (dVar 7)) (aCons (dBin (opAdd false) (dVar 14) (dVar 15)) aNil))) aNil)))
    (sSeq (sExpr (dMetL mAppend (dVar 12) (aCons (dTup (aCons (dBin (opAdd false) (dBin (opAdd false) (dVar 7) (dVar 6)) (dLst false (aCons (dVar 5) aNil))) (aCons (dBin (opAdd false) (dSl false (dVar 3) (oSome (dVar 8)) oNone) (dVar 14)) aNil))) aNil)))
    (sRet (dBin (opAdd false) (dVar 12) (dLst false (aCons (dTup (aCons (dApp (bList false) (aCons (dVar 1) aNil)) (aCons (dApp (bList false) (aCons (dVar 1) aNil)) aNil))) (aCons (dTup (aCons (dLst false (aCons (dVar 10) aNil)) (aCons (dLst false (aCons (dVar 9) aNil)) aNil))) aNil)))))))))))))))))))))
@[irreducible] noncomputable def f_law_spoilt : FSem := runF 16 4 D_law_spoilt

/-! _law_pair_right : slots 0 pool, 1 searches, 2 orders, 3 apart, 4 pair -/
abbrev s_law_pair_right : Stmt := top 31
noncomputable def D_law_pair_right : DS :=
    (sSeq (sFor (iSeq (dBin (opAdd false) (dLst false (aCons (dTup (aCons (dVar 2) (aCons (dVar 3) aNil))) aNil)) (dCall f_law_spoilt false (aCons (dVar 0) (aCons (dVar 1) (aCons (dVar 2) (aCons (dVar 3) aNil))))))) (gName 4)
    (sIf (tNot (tVal (dCall f_law_shown false (aCons (dVar 1) (aCons (dBin opIx (dVar 4) (dCst (.int 0))) (aCons (dBin opIx (dVar 4) (dCst (.int 1))) (aCons (dCall f_law_judged false (aCons (dVar 1) (aCons (dBin opIx (dVar 4) (dCst (.int 0))) (aCons (dBin opIx (dVar 4) (dCst (.int 1))) aNil)))) aNil)))))))
      (sRet (dCst (.bl false)))
      sPass))
    (sRet (dCst (.bl true))))
@[irreducible] noncomputable def f_law_pair_right : FSem := runF 5 4 D_law_pair_right

/-! law : slots 0 script, 1 pool, 2 made, 3 many, 4 searches, 5 handed, 6 told, 7 again -/
abbrev s_law : Stmt := top 32
noncomputable def D_law : DS :=
    (sSeq (sAsg (dCall f_law_pool true (aCons (dVar 0) aNil)) (gName 1))
    (sSeq (sAsg (dCall f_law_known false (aCons (dVar 1) aNil)) (gName 2))
    (sSeq (sIf (tVal (dBin (cmpEq false) (dCall f_law_draw false (aCons (dVar 1) (aCons (dCst (.int 2)) aNil))) (dCst (.int 0))))
    (sSeq (sAsg (dBin (opAdd false) (dCst (.int 1)) (dCall f_law_draw false (aCons (dVar 1) (aCons (dCst (.int 12)) aNil)))) (gName 3))
      (sSeq (sIf (tVal (dBin (cmpEq false) (dCall f_law_draw false (aCons (dVar 1) (aCons (dCst (.int 8)) aNil))) (dCst (.int 7))))
      (sAsg (dBin (opAdd false) (dCst (.int 30)) (dCall f_law_draw false (aCons (dVar 1) (aCons (dCst (.int 11)) aNil)))) (gName 3))
      sPass)
      (sAsg (dTup (aCons (dCall f_law_free false (aCons (dVar 1) (aCons (dVar 3) aNil))) (aCons (dLst false aNil) (aCons (dLst false aNil) aNil)))) (gName 2))))
    sPass)
    (sSeq (sAsg (dBin opIx (dVar 2) (dCst (.int 0))) (gName 4))
    (sSeq (sAsg (dApp (bList false) (aCons (dVar 4) aNil)) (gName 5))
    (sSeq (sAsg (dCall f_least_orders true (aCons (dVar 5) aNil)) (gName 6))
    (sSeq (sIf (tOr (tNot (tVal (dCall f_law_kinds false (aCons (dVar 6) aNil)))) (tOr (tNot (tVal (dCall f_law_judged false (aCons (dVar 4) (aCons (dBin opIx (dVar 6) (dCst (.int 0))) (aCons (dBin opIx (dVar 6) (dCst (.int 1))) aNil)))))) (tNot (tVal (dCall (f_law_same 6) false (aCons (dVar 5) (aCons (dVar 4) aNil)))))))
    (sRet (dCst (.bl false)))
    sPass)
    (sSeq (sIf (tNot (tVal (dCall f_law_pair_right false (aCons (dVar 1) (aCons (dVar 4) (aCons (dApp (bList false) (aCons (dBin opIx (dVar 6) (dCst (.int 0))) aNil)) (aCons (dApp (bList false) (aCons (dBin opIx (dVar 6) (dCst (.int 1))) aNil)) aNil)))))))
    (sRet (dCst (.bl false)))
    sPass)
    (sSeq (sAsg (dApp (bLen) (aCons (dBin opIx (dVar 6) (dCst (.int 0))) aNil)) (gName 3))
    (sSeq (sIf (tVal (dBin (cmpI fun i j => decide (j < i)) (dApp (bLen) (aCons (dBin opIx (dVar 2) (dCst (.int 1))) aNil)) (dCst (.int 0))))
    (sSeq (sIf (tOr (tVal (dBin (cmpEq true) (dApp (bLen) (aCons (dBin opIx (dVar 2) (dCst (.int 1))) aNil)) (dVar 3))) (tNot (tVal (dCall f_law_judged false (aCons (dVar 4) (aCons (dBin opIx (dVar 2) (dCst (.int 1))) (aCons (dBin opIx (dVar 2) (dCst (.int 2))) aNil)))))))
      (sRet (dCst (.bl false)))
      sPass)
      (sIf (tNot (tVal (dCall f_law_pair_right false (aCons (dVar 1) (aCons (dVar 4) (aCons (dBin opIx (dVar 2) (dCst (.int 1))) (aCons (dBin opIx (dVar 2) (dCst (.int 2))) aNil)))))))
      (sRet (dCst (.bl false)))
      sPass))
    sPass)
    (sSeq (sExpr (dMetL mAppend (dBin opIx (dVar 6) (dCst (.int 0))) (aCons (dTup (aCons (dCst (.int 5)) (aCons (dCst (.int 5)) aNil))) aNil)))
    (sSeq (sExpr (dMetL mReverse (dBin opIx (dVar 6) (dCst (.int 1))) aNil))
    (sSeq (sAsg (dCall f_least_orders true (aCons (dBin (opAdd false) (dSl false (dVar 5) (oSome (dCst (.int 1))) oNone) (dSl false (dVar 5) oNone (oSome (dCst (.int 1))))) aNil)) (gName 7))
    (sSeq (sIf (tOr (tNot (tVal (dCall f_law_kinds false (aCons (dVar 7) aNil)))) (tNot (tVal (dCall (f_law_same 6) false (aCons (dVar 5) (aCons (dVar 4) aNil))))))
    (sRet (dCst (.bl false)))
    sPass)
    (sRet (dAnd (dCall f_law_judged false (aCons (dVar 4) (aCons (dBin opIx (dVar 7) (dCst (.int 0))) (aCons (dBin opIx (dVar 7) (dCst (.int 1))) aNil)))) (dBin (cmpEq false) (dApp (bLen) (aCons (dBin opIx (dVar 7) (dCst (.int 0))) aNil)) (dVar 3))))))))))))))))))
@[irreducible] noncomputable def f_law : FSem := runF 8 1 D_law
abbrev bs : List Str := ["len", "abs", "int", "max", "min", "tuple", "list", "sorted", "isinstance", "range", "bool", "str", "dict", "set", "reversed", "sum", "any", "enumerate"]
def BsOk (mg : Str → Option Value) : Prop := ∀ n, bs.contains n = true → mg n = none
section
variable {P : Program} {w : World} {K : PySem.W.Frag} {mg : Str → Option Value} {base : Heap}
theorem sc_has_all : FnScope ["search", "other", "column"] ["search", "other"] (defScope s_has_all) := ⟨rfl, rfl, rfl, by decide +kernel, rfl, by decide +kernel, by decide +kernel⟩
theorem t_has_all : trSs 60 ⟨["search", "other", "column"], defScope s_has_all, fun _ => true, [], bs, [], []⟩ (defBody s_has_all) = some D_has_all := by kernel_rfl
theorem e_has_all {fa : Addr} {fd : FuncData} (F : Fun K "has_all" "has_all" s_has_all fa fd) (hm : mg "has_all" = some (.ref fa)) (B : BsOk mg)  : Ent P w K mg base 1 "has_all" 2 f_has_all := by
  unfold f_has_all
  exact ⟨fa, fd, ["search", "other"], fn_tr (k := 0) F sc_has_all GAll.nil B CAll.nil t_has_all, hm, F.kp, F.binds (ps := ["search", "other"]) fun _ _ _ _ _ _ us hl => match us, hl with | [_, _], _ => rfl⟩
theorem sc_greater_searches : FnScope ["searches", "greater", "at", "search", "k", "other"] ["searches"] (defScope s_greater_searches) := ⟨rfl, rfl, rfl, by decide +kernel, rfl, by decide +kernel, by decide +kernel⟩
theorem t_greater_searches : trSs 60 ⟨["searches", "greater", "at", "search", "k", "other"], defScope s_greater_searches, fun _ => true, [("has_all", 2, f_has_all)], bs, [(9, 14, 16)], []⟩ (defBody s_greater_searches) = some D_greater_searches := by kernel_rfl
theorem e_greater_searches {fa : Addr} {fd : FuncData} (F : Fun K "greater_searches" "greater_searches" s_greater_searches fa fd) (hm : mg "greater_searches" = some (.ref fa)) (B : BsOk mg) (h0 : Ent P w K mg base 1 "has_all" 2 f_has_all) : Ent P w K mg base 2 "greater_searches" 1 f_greater_searches := by
  unfold f_greater_searches
  exact ⟨fa, fd, ["searches"], fn_tr (k := 1) F sc_greater_searches (GAll.cons (h0.mono (by decide)) GAll.nil) B CAll.nil t_greater_searches, hm, F.kp, F.binds (ps := ["searches"]) fun _ _ _ _ _ _ us hl => match us, hl with | [_], _ => rfl⟩
theorem sc_free_target : FnScope ["greater", "before", "start", "came", "queue", "at", "target"] ["greater", "before", "start"] (defScope s_free_target) := ⟨rfl, rfl, rfl, by decide +kernel, rfl, by decide +kernel, by decide +kernel⟩
theorem t_free_target : trSs 60 ⟨["greater", "before", "start", "came", "queue", "at", "target"], defScope s_free_target, fun _ => true, [], bs, [(14, 11, 2000013), (15, 12, 19), (22, 36, 40), (25, 18, 22)], []⟩ (defBody s_free_target) = some D_free_target := by kernel_rfl
theorem e_free_target {fa : Addr} {fd : FuncData} (F : Fun K "free_target" "free_target" s_free_target fa fd) (hm : mg "free_target" = some (.ref fa)) (B : BsOk mg)  : Ent P w K mg base 1 "free_target" 3 f_free_target := by
  unfold f_free_target
  exact ⟨fa, fd, ["greater", "before", "start"], fn_tr (k := 0) F sc_free_target GAll.nil B CAll.nil t_free_target, hm, F.kp, F.binds (ps := ["greater", "before", "start"]) fun _ _ _ _ _ _ us hl => match us, hl with | [_, _, _], _ => rfl⟩
theorem sc_greatest_matching : FnScope ["greater", "after", "before", "start", "target", "came", "source", "earlier"] ["greater"] (defScope s_greatest_matching) := ⟨rfl, rfl, rfl, by decide +kernel, rfl, by decide +kernel, by decide +kernel⟩
theorem t_greatest_matching : trSs 60 ⟨["greater", "after", "before", "start", "target", "came", "source", "earlier"], defScope s_greatest_matching, fun _ => true, [("free_target", 3, f_free_target)], bs, [(27, 12, 2000014), (28, 13, 2000015), (37, 12, 17), (37, 19, 25)], []⟩ (defBody s_greatest_matching) = some D_greatest_matching := by kernel_rfl
theorem e_greatest_matching {fa : Addr} {fd : FuncData} (F : Fun K "greatest_matching" "greatest_matching" s_greatest_matching fa fd) (hm : mg "greatest_matching" = some (.ref fa)) (B : BsOk mg) (h0 : Ent P w K mg base 1 "free_target" 3 f_free_target) : Ent P w K mg base 2 "greatest_matching" 1 f_greatest_matching := by
  unfold f_greatest_matching
  exact ⟨fa, fd, ["greater"], fn_tr (k := 1) F sc_greatest_matching (GAll.cons (h0.mono (by decide)) GAll.nil) B CAll.nil t_greatest_matching, hm, F.kp, F.binds (ps := ["greater"]) fun _ _ _ _ _ _ us hl => match us, hl with | [_], _ => rfl⟩
theorem sc_order_along : FnScope ["searches", "after", "start", "order", "at", "column"] ["searches", "after", "start"] (defScope s_order_along) := ⟨rfl, rfl, rfl, by decide +kernel, rfl, by decide +kernel, by decide +kernel⟩
theorem t_order_along : trSs 60 ⟨["searches", "after", "start", "order", "at", "column"], defScope s_order_along, fun _ => true, [], bs, [], []⟩ (defBody s_order_along) = some D_order_along := by kernel_rfl
theorem e_order_along {fa : Addr} {fd : FuncData} (F : Fun K "order_along" "order_along" s_order_along fa fd) (hm : mg "order_along" = some (.ref fa)) (B : BsOk mg)  : Ent P w K mg base 1 "order_along" 3 f_order_along := by
  unfold f_order_along
  exact ⟨fa, fd, ["searches", "after", "start"], fn_tr (k := 0) F sc_order_along GAll.nil B CAll.nil t_order_along, hm, F.kp, F.binds (ps := ["searches", "after", "start"]) fun _ _ _ _ _ _ us hl => match us, hl with | [_, _, _], _ => rfl⟩
theorem sc_searches_apart : FnScope ["searches", "greater", "after", "before", "reached", "met", "left", "k", "source", "target", "search"] ["searches", "greater", "after", "before"] (defScope s_searches_apart) := ⟨rfl, rfl, rfl, by decide +kernel, rfl, by decide +kernel, by decide +kernel⟩
theorem t_searches_apart : trSs 60 ⟨["searches", "greater", "after", "before", "reached", "met", "left", "k", "source", "target", "search"], defScope s_searches_apart, fun _ => true, [], bs, [(46, 14, 2000016), (47, 10, 2000012), (48, 11, 62), (56, 11, 89)], []⟩ (defBody s_searches_apart) = some D_searches_apart := by kernel_rfl
theorem e_searches_apart {fa : Addr} {fd : FuncData} (F : Fun K "searches_apart" "searches_apart" s_searches_apart fa fd) (hm : mg "searches_apart" = some (.ref fa)) (B : BsOk mg)  : Ent P w K mg base 1 "searches_apart" 4 f_searches_apart := by
  unfold f_searches_apart
  exact ⟨fa, fd, ["searches", "greater", "after", "before"], fn_tr (k := 0) F sc_searches_apart GAll.nil B CAll.nil t_searches_apart, hm, F.kp, F.binds (ps := ["searches", "greater", "after", "before"]) fun _ _ _ _ _ _ us hl => match us, hl with | [_, _, _, _], _ => rfl⟩
theorem sc_least_orders : FnScope ["searches", "greater", "after", "before", "orders", "k"] ["searches"] (defScope s_least_orders) := ⟨rfl, rfl, rfl, by decide +kernel, rfl, by decide +kernel, by decide +kernel⟩
theorem t_least_orders : trSs 60 ⟨["searches", "greater", "after", "before", "orders", "k"], defScope s_least_orders, fun _ => true, [("greater_searches", 1, f_greater_searches), ("greatest_matching", 1, f_greatest_matching), ("order_along", 3, f_order_along), ("searches_apart", 4, f_searches_apart)], bs, [(60, 13, 95), (61, 20, 68)], []⟩ (defBody s_least_orders) = some D_least_orders := by kernel_rfl
theorem e_least_orders {fa : Addr} {fd : FuncData} (F : Fun K "least_orders" "least_orders" s_least_orders fa fd) (hm : mg "least_orders" = some (.ref fa)) (B : BsOk mg) (h0 : Ent P w K mg base 2 "greater_searches" 1 f_greater_searches) (h1 : Ent P w K mg base 2 "greatest_matching" 1 f_greatest_matching) (h2 : Ent P w K mg base 1 "order_along" 3 f_order_along) (h3 : Ent P w K mg base 1 "searches_apart" 4 f_searches_apart) : Ent P w K mg base 3 "least_orders" 1 f_least_orders := by
  unfold f_least_orders
  exact ⟨fa, fd, ["searches"], fn_trK (k := 2) F sc_least_orders (GAll.cons (h0.mono (by decide)) (GAll.cons (h1.mono (by decide)) (GAll.cons (h2.mono (by decide)) (GAll.cons (h3.mono (by decide)) GAll.nil)))) B CAll.nil t_least_orders, hm, F.kp, F.binds (ps := ["searches"]) fun _ _ _ _ _ _ us hl => match us, hl with | [_], _ => rfl⟩
theorem sc_serves : FnScope ["order", "search", "first"] ["order", "search"] (defScope s_serves) := ⟨rfl, rfl, rfl, by decide +kernel, rfl, by decide +kernel, by decide +kernel⟩
theorem t_serves : trSs 60 ⟨["order", "search", "first"], defScope s_serves, fun _ => true, [("has_all", 2, f_has_all)], bs, [], []⟩ (defBody s_serves) = some D_serves := by kernel_rfl
theorem e_serves {fa : Addr} {fd : FuncData} (F : Fun K "serves" "serves" s_serves fa fd) (hm : mg "serves" = some (.ref fa)) (B : BsOk mg) (h0 : Ent P w K mg base 1 "has_all" 2 f_has_all) : Ent P w K mg base 2 "serves" 2 f_serves := by
  unfold f_serves
  exact ⟨fa, fd, ["order", "search"], fn_tr (k := 1) F sc_serves (GAll.cons (h0.mono (by decide)) GAll.nil) B CAll.nil t_serves, hm, F.kp, F.binds (ps := ["order", "search"]) fun _ _ _ _ _ _ us hl => match us, hl with | [_, _], _ => rfl⟩
theorem sc_is_order : FnScope ["order", "at", "column"] ["order"] (defScope s_is_order) := ⟨rfl, rfl, rfl, by decide +kernel, rfl, by decide +kernel, by decide +kernel⟩
theorem t_is_order : trSs 60 ⟨["order", "at", "column"], defScope s_is_order, fun _ => true, [], bs, [], [("COLUMNS", (.tup [.int 0, .int 1, .int 2, .int 3, .int 4, .int 5]))]⟩ (defBody s_is_order) = some D_is_order := by kernel_rfl
theorem e_is_order {fa : Addr} {fd : FuncData} (F : Fun K "is_order" "is_order" s_is_order fa fd) (hm : mg "is_order" = some (.ref fa)) (B : BsOk mg) (CC : CAll K mg [("COLUMNS", (.tup [.int 0, .int 1, .int 2, .int 3, .int 4, .int 5]))])  : Ent P w K mg base 1 "is_order" 1 f_is_order := by
  unfold f_is_order
  exact ⟨fa, fd, ["order"], fn_tr (k := 0) F sc_is_order GAll.nil B CC t_is_order, hm, F.kp, F.binds (ps := ["order"]) fun _ _ _ _ _ _ us hl => match us, hl with | [_], _ => rfl⟩
theorem sc_are_apart : FnScope ["searches", "apart", "at", "search", "k", "other"] ["searches", "apart"] (defScope s_are_apart) := ⟨rfl, rfl, rfl, by decide +kernel, rfl, by decide +kernel, by decide +kernel⟩
theorem t_are_apart : trSs 60 ⟨["searches", "apart", "at", "search", "k", "other"], defScope s_are_apart, fun _ => true, [("has_all", 2, f_has_all)], bs, [], []⟩ (defBody s_are_apart) = some D_are_apart := by kernel_rfl
theorem e_are_apart {fa : Addr} {fd : FuncData} (F : Fun K "are_apart" "are_apart" s_are_apart fa fd) (hm : mg "are_apart" = some (.ref fa)) (B : BsOk mg) (h0 : Ent P w K mg base 1 "has_all" 2 f_has_all) : Ent P w K mg base 2 "are_apart" 2 f_are_apart := by
  unfold f_are_apart
  exact ⟨fa, fd, ["searches", "apart"], fn_tr (k := 1) F sc_are_apart (GAll.cons (h0.mono (by decide)) GAll.nil) B CAll.nil t_are_apart, hm, F.kp, F.binds (ps := ["searches", "apart"]) fun _ _ _ _ _ _ us hl => match us, hl with | [_, _], _ => rfl⟩
theorem sc_shows_orders : FnScope ["searches", "orders", "apart", "order", "search"] ["searches", "orders", "apart"] (defScope s_shows_orders) := ⟨rfl, rfl, rfl, by decide +kernel, rfl, by decide +kernel, by decide +kernel⟩
theorem t_shows_orders : trSs 60 ⟨["searches", "orders", "apart", "order", "search"], defScope s_shows_orders, fun _ => true, [("are_apart", 2, f_are_apart), ("is_order", 1, f_is_order), ("serves", 2, f_serves)], bs, [], []⟩ (defBody s_shows_orders) = some D_shows_orders := by kernel_rfl
theorem e_shows_orders {fa : Addr} {fd : FuncData} (F : Fun K "shows_orders" "shows_orders" s_shows_orders fa fd) (hm : mg "shows_orders" = some (.ref fa)) (B : BsOk mg) (h0 : Ent P w K mg base 2 "are_apart" 2 f_are_apart) (h1 : Ent P w K mg base 1 "is_order" 1 f_is_order) (h2 : Ent P w K mg base 2 "serves" 2 f_serves) : Ent P w K mg base 3 "shows_orders" 3 f_shows_orders := by
  unfold f_shows_orders
  exact ⟨fa, fd, ["searches", "orders", "apart"], fn_tr (k := 2) F sc_shows_orders (GAll.cons (h0.mono (by decide)) (GAll.cons (h1.mono (by decide)) (GAll.cons (h2.mono (by decide)) GAll.nil))) B CAll.nil t_shows_orders, hm, F.kp, F.binds (ps := ["searches", "orders", "apart"]) fun _ _ _ _ _ _ us hl => match us, hl with | [_, _, _], _ => rfl⟩
theorem sc_law_mix : FnScope ["number", "k"] ["number", "k"] (defScope s_law_mix) := ⟨rfl, rfl, rfl, by decide +kernel, rfl, by decide +kernel, by decide +kernel⟩
theorem t_law_mix : trSs 60 ⟨["number", "k"], defScope s_law_mix, fun _ => true, [], bs, [], []⟩ (defBody s_law_mix) = some D_law_mix := by kernel_rfl
theorem e_law_mix {fa : Addr} {fd : FuncData} (F : Fun K "_law_mix" "_law_mix" s_law_mix fa fd) (hm : mg "_law_mix" = some (.ref fa)) (B : BsOk mg)  : Ent P w K mg base 1 "_law_mix" 2 f_law_mix := by
  unfold f_law_mix
  exact ⟨fa, fd, ["number", "k"], fn_tr (k := 0) F sc_law_mix GAll.nil B CAll.nil t_law_mix, hm, F.kp, F.binds (ps := ["number", "k"]) fun _ _ _ _ _ _ us hl => match us, hl with | [_, _], _ => rfl⟩
theorem sc_law_pool : FnScope ["script", "pool", "state", "k", "cell", "turn"] ["script"] (defScope s_law_pool) := ⟨rfl, rfl, rfl, by decide +kernel, rfl, by decide +kernel, by decide +kernel⟩
theorem t_law_pool : trSs 60 ⟨["script", "pool", "state", "k", "cell", "turn"], defScope s_law_pool, fun _ => true, [("_law_mix", 2, f_law_mix)], bs, [(92, 11, 13), (106, 11, 28)], []⟩ (defBody s_law_pool) = some D_law_pool := by kernel_rfl
theorem e_law_pool {fa : Addr} {fd : FuncData} (F : Fun K "_law_pool" "_law_pool" s_law_pool fa fd) (hm : mg "_law_pool" = some (.ref fa)) (B : BsOk mg) (h0 : Ent P w K mg base 1 "_law_mix" 2 f_law_mix) : Ent P w K mg base 2 "_law_pool" 1 f_law_pool := by
  unfold f_law_pool
  exact ⟨fa, fd, ["script"], fn_tr (k := 1) F sc_law_pool (GAll.cons (h0.mono (by decide)) GAll.nil) B CAll.nil t_law_pool, hm, F.kp, F.binds (ps := ["script"]) fun _ _ _ _ _ _ us hl => match us, hl with | [_], _ => rfl⟩
theorem sc_law_draw : FnScope ["pool", "limit"] ["pool", "limit"] (defScope s_law_draw) := ⟨rfl, rfl, rfl, by decide +kernel, rfl, by decide +kernel, by decide +kernel⟩
theorem t_law_draw : trSs 60 ⟨["pool", "limit"], defScope s_law_draw, fun _ => true, [("_law_mix", 2, f_law_mix)], bs, [], []⟩ (defBody s_law_draw) = some D_law_draw := by kernel_rfl
theorem e_law_draw {fa : Addr} {fd : FuncData} (F : Fun K "_law_draw" "_law_draw" s_law_draw fa fd) (hm : mg "_law_draw" = some (.ref fa)) (B : BsOk mg) (h0 : Ent P w K mg base 1 "_law_mix" 2 f_law_mix) : Ent P w K mg base 2 "_law_draw" 2 f_law_draw := by
  unfold f_law_draw
  exact ⟨fa, fd, ["pool", "limit"], fn_tr (k := 1) F sc_law_draw (GAll.cons (h0.mono (by decide)) GAll.nil) B CAll.nil t_law_draw, hm, F.kp, F.binds (ps := ["pool", "limit"]) fun _ _ _ _ _ _ us hl => match us, hl with | [_, _], _ => rfl⟩
theorem sc_law_pick : FnScope ["pool", "rows"] ["pool", "rows"] (defScope s_law_pick) := ⟨rfl, rfl, rfl, by decide +kernel, rfl, by decide +kernel, by decide +kernel⟩
theorem t_law_pick : trSs 60 ⟨["pool", "rows"], defScope s_law_pick, fun _ => true, [("_law_draw", 2, f_law_draw)], bs, [], []⟩ (defBody s_law_pick) = some D_law_pick := by kernel_rfl
theorem e_law_pick {fa : Addr} {fd : FuncData} (F : Fun K "_law_pick" "_law_pick" s_law_pick fa fd) (hm : mg "_law_pick" = some (.ref fa)) (B : BsOk mg) (h0 : Ent P w K mg base 2 "_law_draw" 2 f_law_draw) : Ent P w K mg base 3 "_law_pick" 2 f_law_pick := by
  unfold f_law_pick
  exact ⟨fa, fd, ["pool", "rows"], fn_tr (k := 2) F sc_law_pick (GAll.cons (h0.mono (by decide)) GAll.nil) B CAll.nil t_law_pick, hm, F.kp, F.binds (ps := ["pool", "rows"]) fun _ _ _ _ _ _ us hl => match us, hl with | [_, _], _ => rfl⟩
theorem sc_law_whole : FnScope ["number"] ["number"] (defScope s_law_whole) := ⟨rfl, rfl, rfl, by decide +kernel, rfl, by decide +kernel, by decide +kernel⟩
theorem t_law_whole : trSs 60 ⟨["number"], defScope s_law_whole, fun _ => true, [], bs, [], []⟩ (defBody s_law_whole) = some D_law_whole := by kernel_rfl
theorem e_law_whole {fa : Addr} {fd : FuncData} (F : Fun K "_law_whole" "_law_whole" s_law_whole fa fd) (hm : mg "_law_whole" = some (.ref fa)) (B : BsOk mg)  : Ent P w K mg base 1 "_law_whole" 1 f_law_whole := by
  unfold f_law_whole
  exact ⟨fa, fd, ["number"], fn_tr (k := 0) F sc_law_whole GAll.nil B CAll.nil t_law_whole, hm, F.kp, F.binds (ps := ["number"]) fun _ _ _ _ _ _ us hl => match us, hl with | [_], _ => rfl⟩
theorem sc_law_plain : FnScope ["key", "part"] ["key"] (defScope s_law_plain) := ⟨rfl, rfl, rfl, by decide +kernel, rfl, by decide +kernel, by decide +kernel⟩
theorem t_law_plain (S : FSem) : trSs 60 ⟨["key", "part"], defScope s_law_plain, fun _ => true, [("_law_whole", 1, f_law_whole), ("_law_plain", 1, S)], bs, [], []⟩ (defBody s_law_plain) = some (D_law_plain S) := by kernel_rfl
theorem er_law_plain {fa : Addr} {fd : FuncData} (F : Fun K "_law_plain" "_law_plain" s_law_plain fa fd) (hm : mg "_law_plain" = some (.ref fa)) (B : BsOk mg) (h0 : Ent P w K mg base 1 "_law_whole" 1 f_law_whole) : ∀ n : Nat, Ent P w K mg base (1 + n) "_law_plain" 1 (r_law_plain n)
  | 0 => ⟨fa, fd, ["key"], (fn_no (ps := ["key"])).mono (Nat.zero_le _), hm, F.kp, F.binds (ps := ["key"]) fun _ _ _ _ _ _ us hl => match us, hl with | [_], _ => rfl⟩
  | n + 1 => ⟨fa, fd, ["key"], fn_tr (k := 1 + n) F sc_law_plain (GAll.cons (h0.mono (by omega)) (GAll.cons (er_law_plain F hm B h0 n) GAll.nil)) B CAll.nil (t_law_plain (r_law_plain n)), hm, F.kp, F.binds (ps := ["key"]) fun _ _ _ _ _ _ us hl => match us, hl with | [_], _ => rfl⟩
theorem e_law_plain {fa : Addr} {fd : FuncData} (F : Fun K "_law_plain" "_law_plain" s_law_plain fa fd) (hm : mg "_law_plain" = some (.ref fa)) (B : BsOk mg) (h0 : Ent P w K mg base 1 "_law_whole" 1 f_law_whole) (n : Nat) : Ent P w K mg base (1 + n) "_law_plain" 1 (f_law_plain n) := by
  unfold f_law_plain
  exact er_law_plain F hm B h0 n
theorem sc_law_same : FnScope ["told", "due", "key", "k"] ["told", "due"] (defScope s_law_same) := ⟨rfl, rfl, rfl, by decide +kernel, rfl, by decide +kernel, by decide +kernel⟩
theorem t_law_same (S : FSem) : trSs 60 ⟨["told", "due", "key", "k"], defScope s_law_same, fun _ => true, [("_law_whole", 1, f_law_whole), ("_law_same", 2, S), ("_law_plain", 1, (f_law_plain 6))], bs, [], []⟩ (defBody s_law_same) = some (D_law_same S) := by kernel_rfl
theorem er_law_same {fa : Addr} {fd : FuncData} (F : Fun K "_law_same" "_law_same" s_law_same fa fd) (hm : mg "_law_same" = some (.ref fa)) (B : BsOk mg) (h0 : Ent P w K mg base 1 "_law_whole" 1 f_law_whole) (h1 : Ent P w K mg base 7 "_law_plain" 1 (f_law_plain 6)) : ∀ n : Nat, Ent P w K mg base (7 + n) "_law_same" 2 (r_law_same n)
  | 0 => ⟨fa, fd, ["told", "due"], (fn_no (ps := ["told", "due"])).mono (Nat.zero_le _), hm, F.kp, F.binds (ps := ["told", "due"]) fun _ _ _ _ _ _ us hl => match us, hl with | [_, _], _ => rfl⟩
  | n + 1 => ⟨fa, fd, ["told", "due"], fn_tr (k := 7 + n) F sc_law_same (GAll.cons (h0.mono (by omega)) (GAll.cons (er_law_same F hm B h0 h1 n) (GAll.cons (h1.mono (by omega)) GAll.nil))) B CAll.nil (t_law_same (r_law_same n)), hm, F.kp, F.binds (ps := ["told", "due"]) fun _ _ _ _ _ _ us hl => match us, hl with | [_, _], _ => rfl⟩
theorem e_law_same {fa : Addr} {fd : FuncData} (F : Fun K "_law_same" "_law_same" s_law_same fa fd) (hm : mg "_law_same" = some (.ref fa)) (B : BsOk mg) (h0 : Ent P w K mg base 1 "_law_whole" 1 f_law_whole) (h1 : Ent P w K mg base 7 "_law_plain" 1 (f_law_plain 6)) (n : Nat) : Ent P w K mg base (7 + n) "_law_same" 2 (f_law_same n) := by
  unfold f_law_same
  exact er_law_same F hm B h0 h1 n
theorem sc_law_columns : FnScope ["number", "c"] ["number"] (defScope s_law_columns) := ⟨rfl, rfl, rfl, by decide +kernel, rfl, by decide +kernel, by decide +kernel⟩
theorem t_law_columns : trSs 60 ⟨["number", "c"], defScope s_law_columns, fun _ => true, [], bs, [], []⟩ (defBody s_law_columns) = some D_law_columns := by kernel_rfl
theorem e_law_columns {fa : Addr} {fd : FuncData} (F : Fun K "_law_columns" "_law_columns" s_law_columns fa fd) (hm : mg "_law_columns" = some (.ref fa)) (B : BsOk mg)  : Ent P w K mg base 1 "_law_columns" 1 f_law_columns := by
  unfold f_law_columns
  exact ⟨fa, fd, ["number"], fn_tr (k := 0) F sc_law_columns GAll.nil B CAll.nil t_law_columns, hm, F.kp, F.binds (ps := ["number"]) fun _ _ _ _ _ _ us hl => match us, hl with | [_], _ => rfl⟩
theorem sc_law_shuffled : FnScope ["pool", "columns", "others", "told", "turn"] ["pool", "columns"] (defScope s_law_shuffled) := ⟨rfl, rfl, rfl, by decide +kernel, rfl, by decide +kernel, by decide +kernel⟩
theorem t_law_shuffled : trSs 60 ⟨["pool", "columns", "others", "told", "turn"], defScope s_law_shuffled, fun _ => true, [("_law_draw", 2, f_law_draw)], bs, [(147, 13, 26)], []⟩ (defBody s_law_shuffled) = some D_law_shuffled := by kernel_rfl
theorem e_law_shuffled {fa : Addr} {fd : FuncData} (F : Fun K "_law_shuffled" "_law_shuffled" s_law_shuffled fa fd) (hm : mg "_law_shuffled" = some (.ref fa)) (B : BsOk mg) (h0 : Ent P w K mg base 2 "_law_draw" 2 f_law_draw) : Ent P w K mg base 3 "_law_shuffled" 2 f_law_shuffled := by
  unfold f_law_shuffled
  exact ⟨fa, fd, ["pool", "columns"], fn_tr (k := 2) F sc_law_shuffled (GAll.cons (h0.mono (by decide)) GAll.nil) B CAll.nil t_law_shuffled, hm, F.kp, F.binds (ps := ["pool", "columns"]) fun _ _ _ _ _ _ us hl => match us, hl with | [_, _], _ => rfl⟩
theorem sc_law_free : FnScope ["pool", "many", "numbers", "k", "number", "turn"] ["pool", "many"] (defScope s_law_free) := ⟨rfl, rfl, rfl, by decide +kernel, rfl, by decide +kernel, by decide +kernel⟩
theorem t_law_free : trSs 60 ⟨["pool", "many", "numbers", "k", "number", "turn"], defScope s_law_free, fun _ => true, [("_law_draw", 2, f_law_draw), ("_law_columns", 1, f_law_columns)], bs, [(153, 14, 16)], []⟩ (defBody s_law_free) = some D_law_free := by kernel_rfl
theorem e_law_free {fa : Addr} {fd : FuncData} (F : Fun K "_law_free" "_law_free" s_law_free fa fd) (hm : mg "_law_free" = some (.ref fa)) (B : BsOk mg) (h0 : Ent P w K mg base 2 "_law_draw" 2 f_law_draw) (h1 : Ent P w K mg base 1 "_law_columns" 1 f_law_columns) : Ent P w K mg base 3 "_law_free" 2 f_law_free := by
  unfold f_law_free
  exact ⟨fa, fd, ["pool", "many"], fn_tr (k := 2) F sc_law_free (GAll.cons (h0.mono (by decide)) (GAll.cons (h1.mono (by decide)) GAll.nil)) B CAll.nil t_law_free, hm, F.kp, F.binds (ps := ["pool", "many"]) fun _ _ _ _ _ _ us hl => match us, hl with | [_, _], _ => rfl⟩
theorem sc_law_known : FnScope ["pool", "size", "level", "number", "orders", "apart", "k", "search", "behind", "c", "searches", "order", "found", "at"] ["pool"] (defScope s_law_known) := ⟨rfl, rfl, rfl, by decide +kernel, rfl, by decide +kernel, by decide +kernel⟩
theorem t_law_known : trSs 60 ⟨["pool", "size", "level", "number", "orders", "apart", "k", "search", "behind", "c", "searches", "order", "found", "at"], defScope s_law_known, fun _ => true, [("_law_pick", 2, f_law_pick), ("_law_draw", 2, f_law_draw), ("_law_columns", 1, f_law_columns), ("_law_shuffled", 2, f_law_shuffled)], bs, [(164, 12, 95), (165, 13, 15), (166, 12, 14), (172, 15, 26), (179, 43, 49), (179, 51, 56)], []⟩ (defBody s_law_known) = some D_law_known := by kernel_rfl
theorem e_law_known {fa : Addr} {fd : FuncData} (F : Fun K "_law_known" "_law_known" s_law_known fa fd) (hm : mg "_law_known" = some (.ref fa)) (B : BsOk mg) (h0 : Ent P w K mg base 3 "_law_pick" 2 f_law_pick) (h1 : Ent P w K mg base 2 "_law_draw" 2 f_law_draw) (h2 : Ent P w K mg base 1 "_law_columns" 1 f_law_columns) (h3 : Ent P w K mg base 3 "_law_shuffled" 2 f_law_shuffled) : Ent P w K mg base 4 "_law_known" 1 f_law_known := by
  unfold f_law_known
  exact ⟨fa, fd, ["pool"], fn_tr (k := 3) F sc_law_known (GAll.cons (h0.mono (by decide)) (GAll.cons (h1.mono (by decide)) (GAll.cons (h2.mono (by decide)) (GAll.cons (h3.mono (by decide)) GAll.nil)))) B CAll.nil t_law_known, hm, F.kp, F.binds (ps := ["pool"]) fun _ _ _ _ _ _ us hl => match us, hl with | [_], _ => rfl⟩
theorem sc_law_holds : FnScope ["one", "other", "column"] ["one", "other"] (defScope s_law_holds) := ⟨rfl, rfl, rfl, by decide +kernel, rfl, by decide +kernel, by decide +kernel⟩
theorem t_law_holds : trSs 60 ⟨["one", "other", "column"], defScope s_law_holds, fun _ => true, [], bs, [], []⟩ (defBody s_law_holds) = some D_law_holds := by kernel_rfl
theorem e_law_holds {fa : Addr} {fd : FuncData} (F : Fun K "_law_holds" "_law_holds" s_law_holds fa fd) (hm : mg "_law_holds" = some (.ref fa)) (B : BsOk mg)  : Ent P w K mg base 1 "_law_holds" 2 f_law_holds := by
  unfold f_law_holds
  exact ⟨fa, fd, ["one", "other"], fn_tr (k := 0) F sc_law_holds GAll.nil B CAll.nil t_law_holds, hm, F.kp, F.binds (ps := ["one", "other"]) fun _ _ _ _ _ _ us hl => match us, hl with | [_, _], _ => rfl⟩
theorem sc_law_served : FnScope ["search", "orders", "order"] ["search", "orders"] (defScope s_law_served) := ⟨rfl, rfl, rfl, by decide +kernel, rfl, by decide +kernel, by decide +kernel⟩
theorem t_law_served : trSs 60 ⟨["search", "orders", "order"], defScope s_law_served, fun _ => true, [], bs, [], []⟩ (defBody s_law_served) = some D_law_served := by kernel_rfl
theorem e_law_served {fa : Addr} {fd : FuncData} (F : Fun K "_law_served" "_law_served" s_law_served fa fd) (hm : mg "_law_served" = some (.ref fa)) (B : BsOk mg)  : Ent P w K mg base 1 "_law_served" 2 f_law_served := by
  unfold f_law_served
  exact ⟨fa, fd, ["search", "orders"], fn_tr (k := 0) F sc_law_served GAll.nil B CAll.nil t_law_served, hm, F.kp, F.binds (ps := ["search", "orders"]) fun _ _ _ _ _ _ us hl => match us, hl with | [_, _], _ => rfl⟩
theorem sc_law_judged : FnScope ["searches", "orders", "apart", "order", "k", "search", "other"] ["searches", "orders", "apart"] (defScope s_law_judged) := ⟨rfl, rfl, rfl, by decide +kernel, rfl, by decide +kernel, by decide +kernel⟩
theorem t_law_judged : trSs 60 ⟨["searches", "orders", "apart", "order", "k", "search", "other"], defScope s_law_judged, fun _ => true, [("_law_served", 2, f_law_served), ("_law_holds", 2, f_law_holds)], bs, [], []⟩ (defBody s_law_judged) = some D_law_judged := by kernel_rfl
theorem e_law_judged {fa : Addr} {fd : FuncData} (F : Fun K "_law_judged" "_law_judged" s_law_judged fa fd) (hm : mg "_law_judged" = some (.ref fa)) (B : BsOk mg) (h0 : Ent P w K mg base 1 "_law_served" 2 f_law_served) (h1 : Ent P w K mg base 1 "_law_holds" 2 f_law_holds) : Ent P w K mg base 2 "_law_judged" 3 f_law_judged := by
  unfold f_law_judged
  exact ⟨fa, fd, ["searches", "orders", "apart"], fn_tr (k := 1) F sc_law_judged (GAll.cons (h0.mono (by decide)) (GAll.cons (h1.mono (by decide)) GAll.nil)) B CAll.nil t_law_judged, hm, F.kp, F.binds (ps := ["searches", "orders", "apart"]) fun _ _ _ _ _ _ us hl => match us, hl with | [_, _, _], _ => rfl⟩
theorem sc_law_kinds : FnScope ["told", "rows", "row", "column"] ["told"] (defScope s_law_kinds) := ⟨rfl, rfl, rfl, by decide +kernel, rfl, by decide +kernel, by decide +kernel⟩
theorem t_law_kinds : trSs 60 ⟨["told", "rows", "row", "column"], defScope s_law_kinds, fun _ => true, [("_law_whole", 1, f_law_whole)], bs, [], []⟩ (defBody s_law_kinds) = some D_law_kinds := by kernel_rfl
theorem e_law_kinds {fa : Addr} {fd : FuncData} (F : Fun K "_law_kinds" "_law_kinds" s_law_kinds fa fd) (hm : mg "_law_kinds" = some (.ref fa)) (B : BsOk mg) (h0 : Ent P w K mg base 1 "_law_whole" 1 f_law_whole) : Ent P w K mg base 2 "_law_kinds" 1 f_law_kinds := by
  unfold f_law_kinds
  exact ⟨fa, fd, ["told"], fn_tr (k := 1) F sc_law_kinds (GAll.cons (h0.mono (by decide)) GAll.nil) B CAll.nil t_law_kinds, hm, F.kp, F.binds (ps := ["told"]) fun _ _ _ _ _ _ us hl => match us, hl with | [_], _ => rfl⟩
theorem sc_law_shown : FnScope ["searches", "orders", "apart", "due", "one", "two", "three"] ["searches", "orders", "apart", "due"] (defScope s_law_shown) := ⟨rfl, rfl, rfl, by decide +kernel, rfl, by decide +kernel, by decide +kernel⟩
theorem t_law_shown : trSs 60 ⟨["searches", "orders", "apart", "due", "one", "two", "three"], defScope s_law_shown, fun _ => true, [("_law_same", 2, (f_law_same 6)), ("shows_orders", 3, f_shows_orders)], bs, [], []⟩ (defBody s_law_shown) = some D_law_shown := by kernel_rfl
theorem e_law_shown {fa : Addr} {fd : FuncData} (F : Fun K "_law_shown" "_law_shown" s_law_shown fa fd) (hm : mg "_law_shown" = some (.ref fa)) (B : BsOk mg) (h0 : Ent P w K mg base 13 "_law_same" 2 (f_law_same 6)) (h1 : Ent P w K mg base 3 "shows_orders" 3 f_shows_orders) : Ent P w K mg base 14 "_law_shown" 4 f_law_shown := by
  unfold f_law_shown
  exact ⟨fa, fd, ["searches", "orders", "apart", "due"], fn_tr (k := 13) F sc_law_shown (GAll.cons (h0.mono (by decide)) (GAll.cons (h1.mono (by decide)) GAll.nil)) B CAll.nil t_law_shown, hm, F.kp, F.binds (ps := ["searches", "orders", "apart", "due"]) fun _ _ _ _ _ _ us hl => match us, hl with | [_, _, _, _], _ => rfl⟩
theorem sc_law_spoilt : FnScope ["pool", "searches", "orders", "apart", "at", "order", "ahead", "others", "by", "search", "strange", "k", "pairs", "one", "first", "last"] ["pool", "searches", "orders", "apart"] (defScope s_law_spoilt) := ⟨rfl, rfl, rfl, by decide +kernel, rfl, by decide +kernel, by decide +kernel⟩
theorem t_law_spoilt : trSs 60 ⟨["pool", "searches", "orders", "apart", "at", "order", "ahead", "others", "by", "search", "strange", "k", "pairs", "one", "first", "last"], defScope s_law_spoilt, fun _ => true, [("_law_draw", 2, f_law_draw), ("_law_pick", 2, f_law_pick)], bs, [(224, 12, 103)], []⟩ (defBody s_law_spoilt) = some D_law_spoilt := by kernel_rfl
theorem e_law_spoilt {fa : Addr} {fd : FuncData} (F : Fun K "_law_spoilt" "_law_spoilt" s_law_spoilt fa fd) (hm : mg "_law_spoilt" = some (.ref fa)) (B : BsOk mg) (h0 : Ent P w K mg base 2 "_law_draw" 2 f_law_draw) (h1 : Ent P w K mg base 3 "_law_pick" 2 f_law_pick) : Ent P w K mg base 4 "_law_spoilt" 4 f_law_spoilt := by
  unfold f_law_spoilt
  exact ⟨fa, fd, ["pool", "searches", "orders", "apart"], fn_tr (k := 3) F sc_law_spoilt (GAll.cons (h0.mono (by decide)) (GAll.cons (h1.mono (by decide)) GAll.nil)) B CAll.nil t_law_spoilt, hm, F.kp, F.binds (ps := ["pool", "searches", "orders", "apart"]) fun _ _ _ _ _ _ us hl => match us, hl with | [_, _, _, _], _ => rfl⟩
theorem sc_law_pair_right : FnScope ["pool", "searches", "orders", "apart", "pair"] ["pool", "searches", "orders", "apart"] (defScope s_law_pair_right) := ⟨rfl, rfl, rfl, by decide +kernel, rfl, by decide +kernel, by decide +kernel⟩
theorem t_law_pair_right : trSs 60 ⟨["pool", "searches", "orders", "apart", "pair"], defScope s_law_pair_right, fun _ => true, [("_law_spoilt", 4, f_law_spoilt), ("_law_shown", 4, f_law_shown), ("_law_judged", 3, f_law_judged)], bs, [], []⟩ (defBody s_law_pair_right) = some D_law_pair_right := by kernel_rfl
theorem e_law_pair_right {fa : Addr} {fd : FuncData} (F : Fun K "_law_pair_right" "_law_pair_right" s_law_pair_right fa fd) (hm : mg "_law_pair_right" = some (.ref fa)) (B : BsOk mg) (h0 : Ent P w K mg base 4 "_law_spoilt" 4 f_law_spoilt) (h1 : Ent P w K mg base 14 "_law_shown" 4 f_law_shown) (h2 : Ent P w K mg base 2 "_law_judged" 3 f_law_judged) : Ent P w K mg base 15 "_law_pair_right" 4 f_law_pair_right := by
  unfold f_law_pair_right
  exact ⟨fa, fd, ["pool", "searches", "orders", "apart"], fn_tr (k := 14) F sc_law_pair_right (GAll.cons (h0.mono (by decide)) (GAll.cons (h1.mono (by decide)) (GAll.cons (h2.mono (by decide)) GAll.nil))) B CAll.nil t_law_pair_right, hm, F.kp, F.binds (ps := ["pool", "searches", "orders", "apart"]) fun _ _ _ _ _ _ us hl => match us, hl with | [_, _, _, _], _ => rfl⟩
theorem sc_law : FnScope ["script", "pool", "made", "many", "searches", "handed", "told", "again"] ["script"] (defScope s_law) := ⟨rfl, rfl, rfl, by decide +kernel, rfl, by decide +kernel, by decide +kernel⟩
theorem t_law : trSs 60 ⟨["script", "pool", "made", "many", "searches", "handed", "told", "again"], defScope s_law, fun _ => true, [("_law_pool", 1, f_law_pool), ("_law_known", 1, f_law_known), ("least_orders", 1, f_least_orders), ("_law_draw", 2, f_law_draw), ("_law_pair_right", 4, f_law_pair_right), ("_law_judged", 3, f_law_judged), ("_law_free", 2, f_law_free), ("_law_kinds", 1, f_law_kinds), ("_law_same", 2, (f_law_same 6))], bs, [(243, 11, 28), (252, 11, 31), (265, 12, 49)], []⟩ (defBody s_law) = some D_law := by kernel_rfl
theorem e_law {fa : Addr} {fd : FuncData} (F : Fun K "law" "law" s_law fa fd) (hm : mg "law" = some (.ref fa)) (B : BsOk mg) (h0 : Ent P w K mg base 2 "_law_pool" 1 f_law_pool) (h1 : Ent P w K mg base 4 "_law_known" 1 f_law_known) (h2 : Ent P w K mg base 3 "least_orders" 1 f_least_orders) (h3 : Ent P w K mg base 2 "_law_draw" 2 f_law_draw) (h4 : Ent P w K mg base 15 "_law_pair_right" 4 f_law_pair_right) (h5 : Ent P w K mg base 2 "_law_judged" 3 f_law_judged) (h6 : Ent P w K mg base 3 "_law_free" 2 f_law_free) (h7 : Ent P w K mg base 2 "_law_kinds" 1 f_law_kinds) (h8 : Ent P w K mg base 13 "_law_same" 2 (f_law_same 6)) : Ent P w K mg base 16 "law" 1 f_law := by
  unfold f_law
  exact ⟨fa, fd, ["script"], fn_tr (k := 15) F sc_law (GAll.cons (h0.mono (by decide)) (GAll.cons (h1.mono (by decide)) (GAll.cons (h2.mono (by decide)) (GAll.cons (h3.mono (by decide)) (GAll.cons (h4.mono (by decide)) (GAll.cons (h5.mono (by decide)) (GAll.cons (h6.mono (by decide)) (GAll.cons (h7.mono (by decide)) (GAll.cons (h8.mono (by decide)) GAll.nil))))))))) B CAll.nil t_law, hm, F.kp, F.binds (ps := ["script"]) fun _ _ _ _ _ _ us hl => match us, hl with | [_], _ => rfl⟩
end
end DL

namespace DL
open PySem L2
/-! C0: what the laws share: tuples of ints, orders, draws (pasted behind the terms of a law). -/
local macro_rules | `(tactic| walk_at "go") => `(tactic| repeat (first | refine wp_mb ?_ | with_reducible refine wp_mul (by first | assumption | (exact okMul_iff.mpr (by omega))) ?_ | with_reducible refine wp_mod (by first | assumption | (exact okMod_iff.mpr (by omega))) ?_ | with_reducible refine wp_div (by first | assumption | (exact okDiv_iff.mpr (by omega))) ?_ | with_reducible refine wp_pow (by first | assumption | (exact okPow_iff.mpr (by decide))) ?_ | ((with_reducible refine wp_set ?_ ?_ ?_); (focus rfl); (focus first | exact tT_lb | exact lb_int _ _ | exact lb_bl _ _ | exact lb_non _ | assumption)) | refine wp_eq rfl ?_))

/-! ### plain lists -/
def leqB : List Int → List Int → Bool
  | [], [] => true
  | x :: a, y :: b => decide (x ≤ y) && leqB a b
  | _, _ => false
theorem leqB_len : ∀ {a b : List Int}, a.length ≠ b.length → leqB a b = false
  | [], [], h => absurd rfl h
  | [], _ :: _, _ => rfl
  | _ :: _, [], _ => rfl
  | x :: a, y :: b, h => by
    rw [leqB, leqB_len (a := a) (b := b) (fun e => h (by rw [List.length_cons, List.length_cons, e])), Bool.and_false]
theorem leqB_drop {a b : List Int} {k : Nat} (ha : k < a.length) (hb : k < b.length) : leqB (a.drop k) (b.drop k) = (decide (a[k] ≤ b[k]) && leqB (a.drop (k + 1)) (b.drop (k + 1))) := by
  rw [List.drop_eq_getElem_cons ha, List.drop_eq_getElem_cons hb, leqB]
def lubL (a b : List Int) : List Int := List.zipWith max a b
def glbL (a b : List Int) : List Int := List.zipWith min a b
theorem lubL_len {a b : List Int} (h : a.length = b.length) : (lubL a b).length = a.length := by unfold lubL; rw [List.length_zipWith, h, Nat.min_self]
theorem glbL_len {a b : List Int} (h : a.length = b.length) : (glbL a b).length = a.length := by unfold glbL; rw [List.length_zipWith, h, Nat.min_self]
theorem leqB_lub : ∀ {a b t : List Int}, a.length = b.length → leqB (lubL a b) t = (leqB a t && leqB b t)
  | [], [], [], _ => rfl
  | [], [], _ :: _, _ => rfl
  | x :: a, y :: b, [], _ => rfl
  | x :: a, y :: b, z :: t, h => by
    show (decide (max x y ≤ z) && leqB (lubL a b) t) = ((decide (x ≤ z) && leqB a t) && (decide (y ≤ z) && leqB b t))
    rw [leqB_lub (a := a) (b := b) (t := t) (by simpa using h)]
    have e : decide (max x y ≤ z) = (decide (x ≤ z) && decide (y ≤ z)) := by
      rw [Bool.eq_iff_iff, Bool.and_eq_true, decide_eq_true_iff, decide_eq_true_iff, decide_eq_true_iff]
      omega
    rw [e]
    cases decide (x ≤ z) <;> cases decide (y ≤ z) <;> cases leqB a t <;> rfl
theorem leqB_glb : ∀ {t a b : List Int}, a.length = b.length → leqB t (glbL a b) = (leqB t a && leqB t b)
  | [], [], [], _ => rfl
  | _ :: _, [], [], _ => rfl
  | [], x :: a, y :: b, _ => rfl
  | z :: t, x :: a, y :: b, h => by
    show (decide (z ≤ min x y) && leqB t (glbL a b)) = ((decide (z ≤ x) && leqB t a) && (decide (z ≤ y) && leqB t b))
    rw [leqB_glb (a := a) (b := b) (t := t) (by simpa using h)]
    have e : decide (z ≤ min x y) = (decide (z ≤ x) && decide (z ≤ y)) := by
      rw [Bool.eq_iff_iff, Bool.and_eq_true, decide_eq_true_iff, decide_eq_true_iff, decide_eq_true_iff]
      omega
    rw [e]
    cases decide (z ≤ x) <;> cases decide (z ≤ y) <;> cases leqB t a <;> rfl

/-! ### pieces over tuples of ints -/
theorem eqv_int (x y : Int) : (PyData.int x).eqv (PyData.int y) = (x == y) := by rw [PyData.eqv]
theorem tup_ix {a : List Int} {k : Nat} (h : k < a.length) {st : Sto} : opIx (tT a) (.int ((0 : Int) + (k : Int))) st = some (.int a[k], st) := by
  show (atI (a.map PV.int) ((0 : Int) + (k : Int))).map (fun v => (v, st)) = _
  rw [Int.zero_add, atI_nat (j := k) (v := .int a[k]) (by rw [List.getElem?_map, List.getElem?_eq_getElem h]; rfl)]
  rfl
theorem rng_get {n k : Nat} {x : PV} (h : (rng 0 (n : Int))[k]? = some x) : k < n ∧ x = .int ((0 : Int) + (k : Int)) := by
  unfold rng at h
  rw [Int.sub_zero, Int.toNat_natCast, List.getElem?_map] at h
  by_cases q : k < n
  · rw [List.getElem?_range q] at h
    cases h
    exact ⟨q, rfl⟩
  · rw [List.getElem?_eq_none (by rw [List.length_range]; omega)] at h
    cases h
theorem rng_len {n : Nat} : (rng 0 (n : Int)).length = n := by
  unfold rng
  rw [Int.sub_zero, Int.toNat_natCast, List.length_map, List.length_range]
theorem okR {n : Nat} (h : n ≤ 1000000) : okRng (n : Int) = true := okRng_iff.mpr ⟨by omega, by omega⟩
theorem okL {n : Nat} (h : n ≤ 1000000) : n ≤ sizeLine := Nat.le_trans h (by decide)
theorem max_if (i j : Int) : (if j > i then j else i) = max i j := by
  by_cases h : j > i
  · rw [if_pos h]; omega
  · rw [if_neg h]; omega
theorem min_if (i j : Int) : (if j < i then j else i) = min i j := by
  by_cases h : j < i
  · rw [if_pos h]; omega
  · rw [if_neg h]; omega
theorem mkT_eq {xs : List PV} {st : Sto} (h : xs.length ≤ sizeLine) : mkT xs st = some (.tup xs, st) := if_pos h
theorem mkV_eq {xs : List PV} {st : Sto} (h : xs.length ≤ sizeLine) : mkL false xs st = some (.lst xs, st) := by
  unfold mkL
  rw [if_pos h, if_neg (by decide)]
theorem mkM_eq {xs : List PV} {st : Sto} (h : xs.length ≤ sizeLine) (hb : lbs st.nxt xs = true) : mkL true xs st = some (.loc st.nxt, st.alloc (.lst xs)) := by
  unfold mkL
  rw [if_pos h, if_pos rfl, if_pos hb]
theorem sort2 (x y : Int) : sortI [x, y] = [min x y, max x y] := by
  refine (sortI_uniq (ns := [x, y]) ?_ ?_).symm
  · by_cases h : x ≤ y
    · rw [Int.min_eq_left h, Int.max_eq_right h]
    · rw [Int.min_eq_right (by omega), Int.max_eq_left (by omega)]
      exact List.Perm.swap _ _ _
  · simp only [List.pairwise_cons, List.mem_singleton, List.not_mem_nil, List.Pairwise.nil]
    refine ⟨fun z h => by subst h; omega, fun _ h => h.elim, trivial⟩

/-! C0b: draws -/
def mixI (x k : Int) : Int :=
  ((((x * 48271 + k * 69621 + 11) % 2147483647) * ((x * 48271 + k * 69621 + 11) % 2147483647) + k * 7919 + 5) % 2147483629 * ((((x * 48271 + k * 69621 + 11) % 2147483647) * ((x * 48271 + k * 69621 + 11) % 2147483647) + k * 7919 + 5) % 2147483629) + k * 40692 + 3) % 2147483587
theorem mix_eq {x k : Int} {st : Sto} : f_law_mix [.int x, .int k] st = some (.int (mixI x k), st) := by
  unfold f_law_mix
  refine runF_eq rfl (lb_int _ _) ?_
  show wp (D_law_mix [some (.int x), some (.int k)] st) _
  unfold D_law_mix
  walk_at "go"
  exact ⟨rfl, rfl⟩
theorem mix_pos {x k : Int} : 0 ≤ mixI x k := Int.emod_nonneg _ (by decide)

theorem ints_lb {n : Nat} {P : List Int} : (Cell.lst (P.map .int)).lb n = true := lbs_map (fun i => lb_int n i) P
/-- a pool of draws stands at p -/
def Pool (p : Nat) (st : Sto) : Prop := ∃ P : List Int, st.cs p = some (.lst (P.map .int)) ∧ 2 ≤ P.length
/-- only the pool at p may have changed -/
def Dr (p : Nat) (st st' : Sto) : Prop := ∃ P : List Int, st' = st.set p (.lst (P.map .int)) ∧ 2 ≤ P.length
theorem Pool.dr {p : Nat} {st st' : Sto} (h : Pool p st) (d : Dr p st st') : Pool p st' := by
  obtain ⟨P, hP, _⟩ := h
  obtain ⟨P', rfl, h2⟩ := d
  exact ⟨P', Sto.set_get hP ints_lb, h2⟩
theorem Dr.refl {p : Nat} {st : Sto} (h : Pool p st) : Dr p st st := by
  obtain ⟨P, hP, h2⟩ := h
  exact ⟨P, (Sto.set_self hP).symm, h2⟩
theorem Dr.trans {p : Nat} {st st1 st2 : Sto} (a : Dr p st st1) (b : Dr p st1 st2) : Dr p st st2 := by
  obtain ⟨P, rfl, _⟩ := a
  obtain ⟨P', rfl, h⟩ := b
  exact ⟨P', by rw [Sto.set_set ints_lb], h⟩
theorem Dr.get {p l : Nat} {st st' : Sto} (d : Dr p st st') (h : l ≠ p) : st'.cs l = st.cs l := by
  obtain ⟨P, rfl, _⟩ := d
  exact Sto.set_ne h
theorem Dr.nxt {p : Nat} {st st' : Sto} (d : Dr p st st') : st'.nxt = st.nxt := by
  obtain ⟨P, rfl, _⟩ := d
  rfl
theorem Pool.lt {p : Nat} {st : Sto} (h : Pool p st) : p < st.nxt := by
  obtain ⟨P, hP, _⟩ := h
  exact Sto.lt_of hP
theorem Dr.restr {p : Nat} {st st' : Sto} (d : Dr p st st') : st'.restr st.nxt = st' := by rw [← d.nxt, Sto.restr_self]
theorem ints_get {P : List Int} {k : Nat} (h : k < P.length) : (P.map PV.int)[k]? = some (.int P[k]) := by
  rw [List.getElem?_map, List.getElem?_eq_getElem h]; rfl
theorem ints_at {P : List Int} {k : Nat} (h : k < P.length) : atI (P.map PV.int) (k : Int) = some (.int P[k]) := atI_nat (ints_get h)
theorem draw_wp {p : Nat} {st : Sto} {lim : Int} {Q : PV → Sto → Prop} (h : Pool p st) (hl : 0 < lim) (q : ∀ r st', 0 ≤ r → r < lim → Dr p st st' → Q (.int r) st') : wp (f_law_draw [.loc p, .int lim] st) Q := by
  obtain ⟨P, hP, h2⟩ := h
  unfold f_law_draw
  refine wp_runF rfl ?_
  show wp (D_law_draw [some (.loc p), some (.int lim)] st) _
  have fin' : ∀ (r : Int) (P' : List Int), 2 ≤ P'.length → Q (.int (r % lim)) ((st.set p (.lst (P'.map .int))).restr st.nxt) := fun r P' h' =>
    q _ _ (Int.emod_nonneg _ (by omega)) (Int.emod_lt_of_pos _ hl) ⟨P', Sto.restr_self (st.set p (.lst (P'.map .int))), h'⟩
  unfold D_law_draw
  walk_at "go"
  refine wp_eq (loc_len hP) ?_
  walk_at "go"
  rw [List.length_map]
  refine wp_if (fun h3 => ?_) (fun h3 => ?_)
  · have h3 : 2 < P.length := by
      have := of_decide_eq_true h3
      omega
    walk_at "go"
    refine wp_eq (loc_asL hP) ?_
    walk_at "go"
    refine wp_eq (loc_pop hP (v := .int (P[P.length - 1]'(by omega))) (by rw [List.length_map]; exact ints_get (by omega))) ?_
    walk_at "go"
    rw [← List.map_dropLast]
    exact fin' _ _ (by rw [List.length_dropLast]; omega)
  · walk_at "go"
    refine wp_eq (loc_ix hP (ints_at (k := 1) (by omega))) ?_
    walk_at "go"
    refine wp_eq (a := [some (.loc p), some (.int lim)]) (s := st.set p (.lst ((P.set 1 (P[1] + 1)).map .int))) ?_ ?_
    · rw [loc_set hP (i := 1) (j := 1) (by rw [List.length_map]; unfold ixN; rw [if_pos (by decide), if_pos (by omega)]; rfl) (lb_int _ _), ← List.map_set]
      rfl
    have hP1 : (st.set p (.lst ((P.set 1 (P[1] + 1)).map .int))).cs p = some (.lst ((P.set 1 (P[1] + 1)).map .int)) := Sto.set_get hP ints_lb
    have hl1 : (P.set 1 (P[1] + 1)).length = P.length := List.length_set
    generalize P.set 1 (P[1] + 1) = P1 at hP1 hl1 ⊢
    walk_at "go"
    refine wp_eq (loc_ix hP1 (ints_at (k := 0) (by omega))) ?_
    walk_at "go"
    refine wp_eq (loc_ix hP1 (ints_at (k := 1) (by omega))) ?_
    walk_at "go"
    refine wp_eq (loc_ix hP1 (ints_at (k := 1) (by omega))) ?_
    walk_at "go"
    refine wp_eq mix_eq ?_
    walk_at "go"
    exact fin' _ _ (by omega)
theorem pick_wp {p : Nat} {st : Sto} {v : PV} {xs : List PV} {Q : PV → Sto → Prop} (h : Pool p st) (hx : ∀ st', Dr p st st' → seqOf st' v = some xs) (hne : 0 < xs.length) (hlb : ∀ x ∈ xs, x.lb 0 = true) (q : ∀ x st', x ∈ xs → Dr p st st' → Q x st') : wp (f_law_pick [.loc p, v] st) Q := by
  unfold f_law_pick
  refine wp_runF rfl ?_
  show wp (D_law_pick [some (.loc p), some v] st) _
  unfold D_law_pick
  walk_at "go"
  refine wp_eq (seq_len (hx st (.refl h))) ?_
  walk_at "go"
  refine draw_wp h (by omega) fun r st' h0 h1 d => ?_
  refine wp_set (by rw [d.nxt]) (lb_int _ _) ?_
  obtain ⟨k, rfl⟩ := Int.eq_ofNat_of_zero_le h0
  have hk : k < xs.length := by omega
  have hs := hx st' d
  refine wp_eq (seq_ix hs (atI_nat (List.getElem?_eq_getElem hk))) ?_
  walk_at "go"
  refine wp_eq (fin_val (PV.lb_mono (Nat.zero_le _) (hlb _ (List.getElem_mem hk)))) ?_
  rw [d.restr]
  exact q _ _ (List.getElem_mem hk) d
end DL

namespace DL
open PySem L2
local macro_rules | `(tactic| walk_at "go") => `(tactic| repeat (first | refine wp_mb ?_ | with_reducible refine wp_mul (by first | assumption | (exact okMul_iff.mpr (by omega))) ?_ | with_reducible refine wp_mod (by first | assumption | (exact okMod_iff.mpr (by omega))) ?_ | with_reducible refine wp_div (by first | assumption | (exact okDiv_iff.mpr (by omega))) ?_ | with_reducible refine wp_pow (by first | assumption | (exact okPow_iff.mpr (by decide))) ?_ | ((with_reducible refine wp_set ?_ ?_ ?_); (focus rfl); (focus first | exact tT_lb | exact lb_int _ _ | exact lb_bl _ _ | exact lb_non _ | assumption)) | refine wp_eq rfl ?_))
/-! C0c: the pool is made; the law's own comparison -/
theorem add_lst {m : Bool} {a b : List PV} {y : PV} {st : Sto} (h : lstOf st y = some b) : opAdd m (.lst a) y st = mkL m (a ++ b) st := by
  have e : opAdd m (.lst a) y st = (match lstOf st (.lst a), lstOf st y with | some a, some b => mkL m (a ++ b) st | _, _ => none) := by
    cases y <;> rfl
  rw [e, h]
  rfl
theorem lst_loc {l : Nat} {st : Sto} {xs : List PV} (h : st.cs l = some (.lst xs)) : lstOf st (.loc l) = some xs := by
  show (match st.cs l with | some (.lst xs) => some xs | _ => none) = _
  rw [h]
theorem alloc_snoc {st : Sto} {P : List Int} {x : Int} : (st.alloc (.lst (P.map .int))).set st.nxt (.lst (P.map .int ++ [.int x])) = st.alloc (.lst ((P ++ [x]).map .int)) := by
  have e : (P.map PV.int ++ [.int x]) = (P ++ [x]).map .int := by rw [List.map_append]; rfl
  rw [e, Sto.alloc_set ints_lb ints_lb]
theorem pool_wp {ns : List Int} {st : Sto} {Q : PV → Sto → Prop} (h : ns.length ≤ 63) (q : ∀ P : List Int, 2 ≤ P.length → Q (.loc st.nxt) (st.alloc (.lst (P.map .int)))) : wp (f_law_pool [.ro (ns.map .int)] st) Q := by
  unfold f_law_pool
  refine wp_runF rfl ?_
  show wp (D_law_pool [some (.ro (ns.map .int)), none, none, none, none, none] st) _
  unfold D_law_pool
  refine wp_mb (wp_mb (wp_mb (wp_eq rfl ?_)))
  refine wp_eq (mkM_eq (by decide) (lbs_nil _)) ?_
  walk_at "go"
  have h63 : ¬ (63 : Int) < (ns.length : Int) := by omega
  rw [List.length_map, if_neg h63]
  refine wp_pos (okR (n := ns.length) (by omega)) ?_
  walk_at "go"
  refine forGo_wp (its := ⟨rng 0 (ns.length : Int), none⟩) (fun k env s => ∃ (state : Int) (u3 u4 u5 : Option PV) (P : List Int), env = [some (.ro (ns.map .int)), some (.loc st.nxt), some (.int state), u3, u4, u5] ∧ s = st.alloc (.lst (P.map .int)) ∧ P.length ≤ 60 * k) _ (fun k x env s hx hI => ?_) (fun env s hI => ?_) ⟨_, none, none, none, [], rfl, rfl, Nat.zero_le _⟩
  · obtain ⟨state, u3, u4, u5, P, rfl, rfl, hP⟩ := hI
    obtain ⟨hk, rfl⟩ := rng_get hx
    refine ⟨Its.ok_none, wp_eq rfl ?_⟩
    walk_at "go"
    refine wp_eq (seq_ix rfl (i := (0 : Int) + (k : Int)) (x := .int ns[k]) (by rw [Int.zero_add]; exact ints_at hk)) ?_
    walk_at "go"
    refine wp_eq mix_eq ?_
    walk_at "go"
    generalize hc : (if ns[k] < 0 then -ns[k] else ns[k]) = cell
    refine wp_if (fun h1 => ?_) (fun h1 => ?_)
    · walk_at "go"
      refine wp_pos (okRng_iff.mpr ⟨by decide, by decide⟩) ?_
      walk_at "go"
      refine forGo_wp (its := ⟨rng 0 ((60 : Nat) : Int), none⟩) (fun j env s => ∃ (state cell : Int) (u3 u5 : Option PV) (P : List Int), env = [some (.ro (ns.map .int)), some (.loc st.nxt), some (.int state), u3, some (.int cell), u5] ∧ s = st.alloc (.lst (P.map .int)) ∧ P.length ≤ 60 * k + j) _ (fun j x env s hx hI => ?_) (fun env s hI => ?_) ⟨_, _, _, _, P, rfl, rfl, by omega⟩
      · obtain ⟨state, cell, u3, u5, P, rfl, rfl, hP⟩ := hI
        obtain ⟨hj, rfl⟩ := rng_get hx
        refine ⟨Its.ok_none, wp_eq rfl ?_⟩
        walk_at "go"
        refine wp_if (fun h1 => ?_) (fun h1 => ?_)
        · walk_at "go"
          refine wp_eq (loc_asL (Sto.alloc_get ints_lb)) ?_
          walk_at "go"
          refine wp_eq (loc_append (Sto.alloc_get ints_lb) (by rw [List.length_map, sizeLine_eq]; omega) (lb_int _ _)) ?_
          walk_at "go"
          refine ⟨_, _, _, _, P ++ [cell % 1000], rfl, ?_, by rw [List.length_append, List.length_singleton]; omega⟩
          exact alloc_snoc
        · walk_at "go"
          exact ⟨_, _, _, _, P, rfl, rfl, by omega⟩
      · obtain ⟨state, cell, u3, u5, P, rfl, rfl, hP⟩ := hI
        rw [rng_len] at hP
        refine ⟨Its.ok_none, ?_⟩
        exact ⟨_, _, _, _, P, rfl, rfl, by omega⟩
    · walk_at "go"
      refine wp_pos (okRng_iff.mpr ⟨by decide, by decide⟩) ?_
      walk_at "go"
      refine forGo_wp (its := ⟨rng 0 ((3 : Nat) : Int), none⟩) (fun j env s => ∃ (u5 : Option PV) (P : List Int), env = [some (.ro (ns.map .int)), some (.loc st.nxt), some (.int (mixI (state + cell % 1000000007) (0 + (k : Int)))), some (.int (0 + (k : Int))), some (.int cell), u5] ∧ s = st.alloc (.lst (P.map .int)) ∧ P.length ≤ 60 * k + j) _ (fun j x env s hx hI => ?_) (fun env s hI => ?_) ⟨_, P, rfl, rfl, by omega⟩
      · obtain ⟨u5, P, rfl, rfl, hP⟩ := hI
        obtain ⟨hj, rfl⟩ := rng_get hx
        refine ⟨Its.ok_none, wp_eq rfl ?_⟩
        walk_at "go"
        refine wp_eq (loc_asL (Sto.alloc_get ints_lb)) ?_
        walk_at "go"
        refine wp_eq mix_eq ?_
        walk_at "go"
        refine wp_eq (loc_append (Sto.alloc_get ints_lb) (by rw [List.length_map, sizeLine_eq]; omega) (lb_int _ _)) ?_
        walk_at "go"
        refine ⟨_, P ++ [mixI (cell + 65537 * (0 + (k : Int))) (0 + (j : Int))], rfl, ?_, by rw [List.length_append, List.length_singleton]; omega⟩
        exact alloc_snoc
      · obtain ⟨u5, P, rfl, rfl, hP⟩ := hI
        rw [rng_len] at hP
        refine ⟨Its.ok_none, ?_⟩
        exact ⟨_, _, _, _, P, rfl, rfl, by omega⟩
  · obtain ⟨state, u3, u4, u5, P, rfl, rfl, hP⟩ := hI
    rw [rng_len] at hP
    refine ⟨Its.ok_none, ?_⟩
    walk_at "go"
    refine wp_eq (loc_asL (Sto.alloc_get ints_lb)) ?_
    walk_at "go"
    refine wp_eq (loc_reverse (Sto.alloc_get ints_lb)) ?_
    rw [Sto.alloc_set ints_lb (by rw [← List.map_reverse]; exact ints_lb)]
    walk_at "go"
    rw [← List.map_reverse, add_lst (lst_loc (Sto.alloc_get ints_lb))]
    have e : [PV.int state, PV.int 0] ++ P.reverse.map PV.int = (state :: 0 :: P.reverse).map PV.int := rfl
    rw [e]
    refine wp_eq (mkM_eq (by rw [List.length_map, sizeLine_eq]; simp; omega) (lbs_map (fun i => lb_int _ i) _)) ?_
    walk_at "go"
    refine wp_eq (fin_loc (by rw [Sto.alloc_nxt]; omega) (Sto.alloc_get ints_lb) ints_lb) ?_
    rw [Sto.restr_alloc (by rw [Sto.alloc_nxt]; omega), Sto.restr_alloc (Nat.le_refl _), Sto.restr_self]
    exact q _ (by simp)

/-! the law's own == -/
def plainP : Nat → PV → Bool
  | _, .non => true
  | _, .bl _ => true
  | _, .int _ => true
  | d + 1, .tup xs => decide (xs.length ≤ 1000000) && xs.all (plainP d)
  | d + 1, .lst xs => decide (xs.length ≤ 1000000) && xs.all (plainP d)
  | _, _ => false
theorem derf_cases {st : Sto} {t v : PV} (h : derf st t = v) : t = v ∨ ∃ l c, t = .loc l ∧ st.cs l = some c ∧ v = c.val := by
  unfold derf at h
  split at h
  · rename_i l
    split at h
    · rename_i c hc
      exact .inr ⟨l, c, rfl, hc, h.symm⟩
    · exact .inl h
  · exact .inl h
theorem derf_atom {st : Sto} {t v : PV} (h : derf st t = v) (hv : ∀ c : Cell, v ≠ c.val) : t = v := by
  rcases derf_cases h with h | ⟨l, c, _, _, h⟩
  · exact h
  · exact absurd h (hv c)
theorem plain_derf {st : Sto} {d : Nat} {v : PV} (h : plainP d v = true) : derf st v = v := by
  cases v with
  | loc l => cases d <;> exact absurd (show false = true from h) Bool.false_ne_true
  | _ => rfl
theorem whole_int {i : Int} {st : Sto} : f_law_whole [.int i] st = some (.bl true, st) := by
  unfold f_law_whole
  refine runF_eq rfl (lb_bl _ _) ?_
  show wp (D_law_whole [some (.int i)] st) _
  unfold D_law_whole
  walk_at "go"
  exact ⟨rfl, rfl⟩
theorem lst_facts {st : Sto} {t : PV} {xs : List PV} (h : derf st t = .lst xs) : seqOf st t = some xs ∧ (∀ b, isTy b st t = some (b == BTy.list)) ∧ isNonP t = false ∧ (∀ s, t ≠ .str s) := by
  rcases derf_cases h with rfl | ⟨l, c, rfl, hc, e⟩
  · exact ⟨rfl, fun b => rfl, rfl, fun _ z => by cases z⟩
  · cases c with
    | lst ys =>
      cases e
      refine ⟨?_, fun b => ?_, rfl, fun _ z => by cases z⟩
      · show (match st.cs l with | some (.lst xs) => some xs | _ => none) = _
        rw [hc]
      · show (match st.cs l with | some (.lst _) => some (b == BTy.list) | some (.dct _ _) => some (b == BTy.dict) | _ => none) = _
        rw [hc]
    | dct _ _ => cases e
    | dki _ _ => cases e
theorem isi_eq {b : BTy} {t : PV} {st : Sto} {r : Bool} (h : isTy b st t = some r) : bIsi b t st = some (.bl r, st) := by
  unfold bIsi
  rw [h]; rfl
theorem eqv_bool (x y : Bool) : (PyData.bool x).eqv (PyData.bool y) = (x == y) := by rw [PyData.eqv]
theorem eqv_str (x y : Str) : (PyData.str x).eqv (PyData.str y) = (x == y) := by rw [PyData.eqv]
/-- both are the same list or tuple: item by item -/
theorem same_seq {self : FSem} {told due : PV} {xs : List PV} {st : Sto} {ty : BTy} (hz : xs.length ≤ 1000000) (hty : ty = .list ∨ ty = .tuple) (h1 : seqOf st told = some xs) (h2 : seqOf st due = some xs) (t1 : ∀ b, isTy b st told = some (b == ty)) (t2 : ∀ b, isTy b st due = some (b == ty)) (n2 : isNonP due = false)
    (hs : ∀ x ∈ xs, self [x, x] st = some (.bl true, st)) : runF 4 2 (D_law_same self) [told, due] st = some (.bl true, st) := by
  refine runF_eq rfl (lb_bl _ _) ?_
  show wp (D_law_same self [some told, some due, none, none] st) _
  have b1 : (BTy.bool == ty) = false := by rcases hty with rfl | rfl <;> rfl
  have b2 : (BTy.int == ty) = false := by rcases hty with rfl | rfl <;> rfl
  have b3 : (BTy.str == ty) = false := by rcases hty with rfl | rfl <;> rfl
  have b4 : (BTy.dict == ty) = false := by rcases hty with rfl | rfl <;> rfl
  unfold D_law_same
  walk_at "go"
  rw [n2]
  walk_at "go"
  refine wp_eq (isi_eq (t2 .bool)) ?_
  rw [b1]
  walk_at "go"
  refine wp_eq (isi_eq (t2 .int)) ?_
  rw [b2]
  walk_at "go"
  refine wp_eq (isi_eq (t2 .str)) ?_
  rw [b3]
  walk_at "go"
  refine wp_eq (isi_eq (t2 .dict)) ?_
  rw [b4]
  walk_at "go"
  refine wp_eq (isi_eq (t2 .list)) ?_
  walk_at "go"
  refine wp_eq (isi_eq (t1 .list)) ?_
  walk_at "go"
  rw [eqv_bool, beq_self_eq_true]
  walk_at "go"
  refine wp_eq (isi_eq (t2 .tuple)) ?_
  walk_at "go"
  refine wp_eq (isi_eq (t1 .tuple)) ?_
  walk_at "go"
  rw [eqv_bool, beq_self_eq_true]
  walk_at "go"
  refine wp_eq (seq_len h1) ?_
  walk_at "go"
  refine wp_eq (seq_len h2) ?_
  walk_at "go"
  rw [eqv_int, beq_self_eq_true]
  walk_at "go"
  refine wp_eq (seq_len h2) ?_
  walk_at "go"
  refine wp_pos (okR hz) ?_
  walk_at "go"
  refine forGo_wp (its := ⟨rng 0 (xs.length : Int), none⟩) (fun k env s => s = st ∧ ∃ u2 u3, env = [some told, some due, u2, u3]) _ (fun k x env s hx hI => ?_) (fun env s hI => ?_) ⟨rfl, _, _, rfl⟩
  · obtain ⟨rfl, u2, u3, rfl⟩ := hI
    obtain ⟨hk, rfl⟩ := rng_get hx
    refine ⟨Its.ok_none, wp_eq rfl ?_⟩
    walk_at "go"
    have hat : atI xs ((0 : Int) + (k : Int)) = some xs[k] := by rw [Int.zero_add]; exact atI_nat (List.getElem?_eq_getElem hk)
    refine wp_eq (seq_ix h1 hat) ?_
    walk_at "go"
    refine wp_eq (seq_ix h2 hat) ?_
    walk_at "go"
    refine wp_eq (hs _ (List.getElem_mem hk)) ?_
    walk_at "go"
    exact ⟨rfl, _, _, rfl⟩
  · obtain ⟨rfl, u2, u3, rfl⟩ := hI
    refine ⟨Its.ok_none, ?_⟩
    walk_at "go"
    exact ⟨rfl, rfl⟩
theorem same_true : ∀ (d : Nat) {told due v : PV} {st : Sto}, derf st told = v → derf st due = v → plainP d v = true → r_law_same (d + 1) [told, due] st = some (.bl true, st) := by
  intro d
  induction d with
  | zero =>
    intro told due v st h1 h2 hp
    cases v with
    | non =>
      cases derf_atom h1 (fun c z => by cases c <;> cases z)
      cases derf_atom h2 (fun c z => by cases c <;> cases z)
      refine runF_eq rfl (lb_bl _ _) ?_
      show wp (D_law_same _ [some .non, some .non, none, none] st) _
      unfold D_law_same
      walk_at "go"
      exact ⟨rfl, rfl⟩
    | bl b =>
      cases derf_atom h1 (fun c z => by cases c <;> cases z)
      cases derf_atom h2 (fun c z => by cases c <;> cases z)
      refine runF_eq rfl (lb_bl _ _) ?_
      show wp (D_law_same _ [some (.bl b), some (.bl b), none, none] st) _
      unfold D_law_same
      walk_at "go"
      rw [eqv_bool, beq_self_eq_true]
      exact ⟨rfl, rfl⟩
    | int i =>
      cases derf_atom h1 (fun c z => by cases c <;> cases z)
      cases derf_atom h2 (fun c z => by cases c <;> cases z)
      refine runF_eq rfl (lb_bl _ _) ?_
      show wp (D_law_same _ [some (.int i), some (.int i), none, none] st) _
      unfold D_law_same
      walk_at "go"
      refine wp_eq whole_int ?_
      walk_at "go"
      rw [eqv_int, beq_self_eq_true]
      exact ⟨rfl, rfl⟩
    | _ => exact absurd (show false = true from hp) Bool.false_ne_true
  | succ d ih =>
    intro told due v st h1 h2 hp
    have up : ∀ {d : Nat} {t u w : PV} {st : Sto}, plainP 0 w = true → derf st t = w → derf st u = w → r_law_same (d + 1) [t, u] st = some (.bl true, st) := by
      intro d t u w st hp h1 h2
      cases w with
      | non =>
        cases derf_atom h1 (fun c z => by cases c <;> cases z)
        cases derf_atom h2 (fun c z => by cases c <;> cases z)
        refine runF_eq rfl (lb_bl _ _) ?_
        show wp (D_law_same _ [some .non, some .non, none, none] st) _
        unfold D_law_same
        walk_at "go"
        exact ⟨rfl, rfl⟩
      | bl b =>
        cases derf_atom h1 (fun c z => by cases c <;> cases z)
        cases derf_atom h2 (fun c z => by cases c <;> cases z)
        refine runF_eq rfl (lb_bl _ _) ?_
        show wp (D_law_same _ [some (.bl b), some (.bl b), none, none] st) _
        unfold D_law_same
        walk_at "go"
        rw [eqv_bool, beq_self_eq_true]
        exact ⟨rfl, rfl⟩
      | int i =>
        cases derf_atom h1 (fun c z => by cases c <;> cases z)
        cases derf_atom h2 (fun c z => by cases c <;> cases z)
        refine runF_eq rfl (lb_bl _ _) ?_
        show wp (D_law_same _ [some (.int i), some (.int i), none, none] st) _
        unfold D_law_same
        walk_at "go"
        refine wp_eq whole_int ?_
        walk_at "go"
        rw [eqv_int, beq_self_eq_true]
        exact ⟨rfl, rfl⟩
      | _ => exact absurd (show false = true from hp) Bool.false_ne_true
    cases v with
    | tup xs =>
      cases derf_atom h1 (fun c z => by cases c <;> cases z)
      cases derf_atom h2 (fun c z => by cases c <;> cases z)
      rw [plainP, Bool.and_eq_true, decide_eq_true_iff, List.all_eq_true] at hp
      exact same_seq hp.1 (.inr rfl) rfl rfl (fun b => rfl) (fun b => rfl) rfl fun x hx => ih (plain_derf (hp.2 x hx)) (plain_derf (hp.2 x hx)) (hp.2 x hx)
    | lst xs =>
      rw [plainP, Bool.and_eq_true, decide_eq_true_iff, List.all_eq_true] at hp
      obtain ⟨a1, a2, a3, _⟩ := lst_facts h1
      obtain ⟨b1, b2, b3, _⟩ := lst_facts h2
      exact same_seq hp.1 (.inl rfl) a1 b1 a2 b2 b3 fun x hx => ih (plain_derf (hp.2 x hx)) (plain_derf (hp.2 x hx)) (hp.2 x hx)
    | non => exact up rfl h1 h2
    | bl _ => exact up rfl h1 h2
    | int _ => exact up rfl h1 h2
    | _ => exact absurd (show false = true from hp) Bool.false_ne_true
theorem same_ok {told due v : PV} {st : Sto} (h1 : derf st told = v) (h2 : derf st due = v) (hp : plainP 5 v = true) : f_law_same 6 [told, due] st = some (.bl true, st) := by
  unfold f_law_same
  exact same_true 5 h1 h2 hp
theorem plain_tT {d : Nat} {a : List Int} (h : a.length ≤ 1000000) : plainP (d + 1) (tT a) = true := by
  show (decide ((a.map PV.int).length ≤ 1000000) && (a.map PV.int).all (plainP d)) = true
  rw [List.length_map, decide_eq_true h, List.all_map]
  rw [List.all_eq_true.mpr (fun x _ => by cases d <;> rfl)]
  rfl
theorem plain_int {d : Nat} {i : Int} : plainP d (.int i) = true := by cases d <;> rfl
theorem plain_bl {d : Nat} {i : Bool} : plainP d (.bl i) = true := by cases d <;> rfl
theorem plain_non {d : Nat} : plainP d .non = true := by cases d <;> rfl
end DL

namespace DL
open PySem L2
local macro_rules | `(tactic| walk_at "go") => `(tactic| repeat (first | refine wp_mb ?_ | with_reducible refine wp_mul (by first | assumption | (exact okMul_iff.mpr (by omega))) ?_ | with_reducible refine wp_mod (by first | assumption | (exact okMod_iff.mpr (by omega))) ?_ | with_reducible refine wp_div (by first | assumption | (exact okDiv_iff.mpr (by omega))) ?_ | with_reducible refine wp_pow (by first | assumption | (exact okPow_iff.mpr (by decide))) ?_ | ((with_reducible refine wp_set ?_ ?_ ?_); (focus rfl); (focus first | exact tT_lb | exact lb_int _ _ | exact lb_bl _ _ | exact lb_non _ | assumption)) | refine wp_eq rfl ?_))
/-! C1s: more that the laws share -/
theorem zip_get {f : Int → Int → Int} {a b : List Int} {k : Nat} (ha : k < a.length) (hb : k < b.length) : ((List.zipWith f a b).map PV.int)[k]? = some (.int (f a[k] b[k])) := by
  rw [List.getElem?_map, List.getElem?_zipWith, List.getElem?_eq_getElem ha, List.getElem?_eq_getElem hb]
  rfl
theorem bTuple_lst {xs : List PV} {st : Sto} (h : xs.length ≤ 1000000) : bTuple [.lst xs] st = some (.tup xs, st) := mkT_eq (okL h)
theorem add_tup {m : Bool} {a b : List PV} {st : Sto} (h : a.length + b.length ≤ 1000000) : opAdd m (.tup a) (.tup b) st = some (.tup (a ++ b), st) := by
  show (if a.length + b.length ≤ sizeLine then some (PV.tup (a ++ b), st) else none) = _
  rw [if_pos (okL h)]
theorem add_tT {m : Bool} {a b : List Int} {st : Sto} (h : a.length + b.length ≤ 1000000) : opAdd m (tT a) (tT b) st = some (tT (a ++ b), st) := by
  show opAdd m (.tup (a.map .int)) (.tup (b.map .int)) st = _
  rw [add_tup (by rw [List.length_map, List.length_map]; exact h), ← List.map_append]
  rfl
theorem sIx_to {n k d : Nat} : HT.sIx n d (some (k : Int)) = min k n := HT.sIx_nat n d k
theorem cut_from {xs : List PV} {k : Nat} (h : k ≤ xs.length) : cutP xs (some (k : Int)) none = xs.drop k := by
  unfold cutP
  rw [sIx_to, HT.sIx_none, Nat.min_eq_left h]
  exact List.take_of_length_le (by rw [List.length_drop]; omega)
theorem cut_to {xs : List PV} {k : Nat} (h : k ≤ xs.length) : cutP xs none (some (k : Int)) = xs.take k := by
  unfold cutP
  rw [sIx_to, HT.sIx_none, Nat.min_eq_left h, Nat.sub_zero, List.drop_zero]
theorem seq_of_lst {v : PV} {st : Sto} {xs : List PV} (h : lstOf st v = some xs) : seqOf st v = some xs := by
  cases v with
  | lst ys => exact h
  | loc l => exact h
  | _ => cases h
theorem derf_of_lst {v : PV} {st : Sto} {xs : List PV} (h : lstOf st v = some xs) : derf st v = .lst xs := by
  cases v with
  | lst ys => cases h; rfl
  | loc l =>
    have h : (match st.cs l with | some (.lst xs) => some xs | _ => none) = some xs := h
    show (match st.cs l with | some c => c.val | none => .loc l) = _
    split at h
    · rename_i hl
      cases h
      rw [hl]; rfl
    · cases h
  | _ => cases h
theorem intsOf_map (l : List Int) : intsOf (l.map .int) = some l := by
  induction l with
  | nil => rfl
  | cons x l ih => rw [List.map_cons, intsOf, ih]; rfl
theorem get_map {α : Type} {f : α → PV} {l : List α} {k : Nat} {x : PV} (h : (l.map f)[k]? = some x) : ∃ y, l[k]? = some y ∧ y ∈ l ∧ x = f y := by
  rw [List.getElem?_map] at h
  cases hk : l[k]? with
  | none => rw [hk] at h; cases h
  | some y => rw [hk] at h; cases h; exact ⟨y, rfl, List.mem_of_getElem? hk, rfl⟩
theorem bMin_ints {l : List Int} {st : Sto} (h : l ≠ []) : bMin [.lst (l.map .int)] st = some (.int (minL l), st) := by
  show (match intsOf (l.map .int) with | some (i :: r) => some (PV.int (minL (i :: r)), st) | _ => none) = _
  rw [intsOf_map]
  cases l with
  | nil => exact absurd rfl h
  | cons x r => rfl
theorem bList_v {v : PV} {xs : List PV} {st : Sto} (h : seqOf st v = some xs) (hz : xs.length ≤ 1000000) : bList false [v] st = some (.lst xs, st) := by
  show (match seqOf st v with | some xs => mkL false xs st | none => none) = _
  rw [h]
  exact mkV_eq (okL hz)
theorem pool_new {P : List Int} {st : Sto} (h : 2 ≤ P.length) : Pool st.nxt (st.alloc (.lst (P.map .int))) := ⟨P, Sto.alloc_get ints_lb, h⟩
theorem Pool.alloc {p : Nat} {st : Sto} {c : Cell} (h : Pool p st) : Pool p (st.alloc c) := by
  obtain ⟨P, hP, h2⟩ := h
  have : p < st.nxt := Sto.lt_of hP
  exact ⟨P, by rw [Sto.alloc_ne (by omega)]; exact hP, h2⟩
theorem Pool.set {p l : Nat} {st : Sto} {c : Cell} (h : Pool p st) (hl : l ≠ p) : Pool p (st.set l c) := by
  obtain ⟨P, hP, h2⟩ := h
  exact ⟨P, by rw [Sto.set_ne (Ne.symm hl)]; exact hP, h2⟩
/-! C1t: tuples, pieces -/
theorem tup_nat {a : List Int} {i : Int} {k : Nat} (hi : i = (k : Int)) (h : k < a.length) {st : Sto} : opIx (tT a) (.int i) st = some (.int a[k], st) := by
  subst hi
  exact seq_ix (v := tT a) rfl (ints_at h)
theorem cutT_to {a : List Int} {i : Int} {k : Nat} (hi : i = (k : Int)) (h : k ≤ a.length) : cutP (a.map PV.int) none (some i) = (a.take k).map PV.int := by
  subst hi
  rw [cut_to (by rw [List.length_map]; exact h), List.map_take]
theorem cutT_from {a : List Int} {i : Int} {k : Nat} (hi : i = (k : Int)) (h : k ≤ a.length) : cutP (a.map PV.int) (some i) none = (a.drop k).map PV.int := by
  subst hi
  rw [cut_from (by rw [List.length_map]; exact h), List.map_drop]
theorem getD_at {a : List Int} {k : Nat} (h : k < a.length) : a.getD k 0 = a[k] := by rw [List.getD_eq_getElem?_getD, List.getElem?_eq_getElem h]; rfl
theorem cutL_to {xs : List PV} {i : Int} {k : Nat} (hi : i = (k : Int)) (h : k ≤ xs.length) : cutP xs none (some i) = xs.take k := by
  subst hi
  exact cut_to h
theorem cutL_from {xs : List PV} {i : Int} {k : Nat} (hi : i = (k : Int)) (h : k ≤ xs.length) : cutP xs (some i) none = xs.drop k := by
  subst hi
  exact cut_from h
end DL

namespace DL
open PySem L2
/-! E: == and in over tuples of ints -/
theorem toDs_ints {cs : Nat → Option Cell} : ∀ a : List Int, toDs cs (a.map .int) = some (a.map PyData.int)
  | [] => by rw [List.map_nil, toDs]; rfl
  | x :: a => by rw [List.map_cons, toDs, PV.toD, toDs_ints a]; rfl
theorem toD_tT {cs : Nat → Option Cell} {a : List Int} : (tT a).toD cs = some (.tuple (a.map PyData.int)) := by
  unfold tT
  rw [PV.toD, toDs_ints]; rfl
theorem toDs_rows {cs : Nat → Option Cell} : ∀ ks : List (List Int), toDs cs (ks.map tT) = some (ks.map fun a => PyData.tuple (a.map PyData.int))
  | [] => by rw [List.map_nil, toDs]; rfl
  | x :: a => by rw [List.map_cons, toDs, toD_tT, toDs_rows a]; rfl
theorem eqvA_ints : ∀ a b : List Int, PyData.eqvAll (a.map PyData.int) (b.map PyData.int) = decide (a = b)
  | [], [] => by rw [List.map_nil, PyData.eqvAll]; rfl
  | [], y :: b => by rw [List.map_nil, List.map_cons, PyData.eqvAll]; rfl
  | x :: a, [] => by rw [List.map_nil, List.map_cons, PyData.eqvAll]; rfl
  | x :: a, y :: b => by
    rw [List.map_cons, List.map_cons, PyData.eqvAll, PyData.eqv, eqvA_ints a b]
    by_cases h : x = y
    · subst h; simp
    · simp [h]
theorem eqv_tT (a b : List Int) : (PyData.tuple (a.map PyData.int)).eqv (.tuple (b.map PyData.int)) = decide (a = b) := by
  rw [PyData.eqv, eqvA_ints]
theorem eqvA_rows : ∀ a b : List (List Int), PyData.eqvAll (a.map fun k => PyData.tuple (k.map PyData.int)) (b.map fun k => PyData.tuple (k.map PyData.int)) = decide (a = b)
  | [], [] => by rw [List.map_nil, PyData.eqvAll]; rfl
  | [], y :: b => by rw [List.map_nil, List.map_cons, PyData.eqvAll]; rfl
  | x :: a, [] => by rw [List.map_nil, List.map_cons, PyData.eqvAll]; rfl
  | x :: a, y :: b => by
    rw [List.map_cons, List.map_cons, PyData.eqvAll, eqv_tT, eqvA_rows a b]
    by_cases h : x = y
    · subst h; simp
    · simp [h]
theorem lay_ints : ∀ a : List Int, PyData.canLayAll0 (a.map PyData.int) = true ∧ PyData.depthAll (a.map PyData.int) = 0
  | [] => by rw [List.map_nil, PyData.canLayAll0, PyData.depthAll]; exact ⟨rfl, rfl⟩
  | x :: a => by
    obtain ⟨h1, h2⟩ := lay_ints a
    rw [List.map_cons, PyData.canLayAll0, PyData.depthAll, h1, h2, PyData.canLay0, PyData.depth]
    exact ⟨rfl, rfl⟩
theorem shaped_tT (a : List Int) : SeqAt.shaped (.tuple (a.map PyData.int)) = true := by
  obtain ⟨h1, h2⟩ := lay_ints a
  unfold SeqAt.shaped
  rw [PyData.canLay0, PyData.depth, h1, h2]
  rfl
theorem lay_rows : ∀ a : List (List Int), PyData.canLayAll0 (a.map fun k => PyData.tuple (k.map PyData.int)) = true ∧ PyData.depthAll (a.map fun k => PyData.tuple (k.map PyData.int)) ≤ 1
  | [] => by rw [List.map_nil, PyData.canLayAll0, PyData.depthAll]; exact ⟨rfl, by omega⟩
  | x :: a => by
    obtain ⟨h1, h2⟩ := lay_rows a
    obtain ⟨h3, h4⟩ := lay_ints x
    rw [List.map_cons, PyData.canLayAll0, PyData.depthAll, h1, PyData.canLay0, PyData.depth, h3, h4]
    exact ⟨rfl, by omega⟩
theorem shaped_rows (a : List (List Int)) : SeqAt.shaped (.list (a.map fun k => PyData.tuple (k.map PyData.int))) = true := by
  obtain ⟨h1, h2⟩ := lay_rows a
  unfold SeqAt.shaped
  rw [PyData.canLay0, PyData.depth, h1, decide_eq_true (show _ ≤ 64 by omega)]
  rfl
theorem cmpEq_tT {neg : Bool} {a b : List Int} {st : Sto} : cmpEq neg (tT a) (tT b) st = some (.bl (decide (a = b) != neg), st) := by
  unfold cmpEq
  show (match (tT a).toD st.cs, (tT b).toD st.cs with | some d, some e => if SeqAt.shaped d && SeqAt.shaped e then some (PV.bl (PyData.eqv d e != neg), st) else none | _, _ => none) = _
  rw [toD_tT, toD_tT]
  show (if SeqAt.shaped (.tuple (a.map PyData.int)) && SeqAt.shaped (.tuple (b.map PyData.int)) then _ else _) = _
  rw [shaped_tT, shaped_tT, eqv_tT]
  rfl
theorem cmpEq_rows {neg : Bool} {x y : PV} {as bs : List (List Int)} {st : Sto} (h1 : derf st x = .lst (as.map tT)) (h2 : derf st y = .lst (bs.map tT)) : cmpEq neg x y st = some (.bl (decide (as = bs) != neg), st) := by
  unfold cmpEq
  rw [h1, h2, PV.toD, PV.toD, toDs_rows, toDs_rows]
  show (if SeqAt.shaped (.list (as.map fun k => PyData.tuple (k.map PyData.int))) && SeqAt.shaped (.list (bs.map fun k => PyData.tuple (k.map PyData.int))) then some (PV.bl (PyData.eqv (.list (as.map fun k => PyData.tuple (k.map PyData.int))) (.list (bs.map fun k => PyData.tuple (k.map PyData.int))) != neg), st) else none) = _
  rw [shaped_rows, shaped_rows, PyData.eqv, eqvA_rows]
  rfl
theorem seq_lst {st : Sto} {y : PV} {xs : List PV} (h : lstOf st y = some xs) : seqOf st y = some xs := by
  cases y with
  | lst ys => exact h
  | loc l => exact h
  | _ => cases h
/-! E2: == and in over rows of any make -/
structure EqE (α : Type) [DecidableEq α] where
  p : α → PV
  d : α → PyData
  m : Nat
  pd : ∀ (a : α) (cs : Nat → Option Cell), (p a).toD cs = some (d a)
  lay : ∀ a, (d a).canLay0 = true
  dep : ∀ a, (d a).depth ≤ m
  eq : ∀ a b, (d a).eqv (d b) = decide (a = b)
namespace EqE
variable {α β γ : Type} [DecidableEq α] [DecidableEq β] [DecidableEq γ] (E : EqE α) (F : EqE β) (G : EqE γ)
theorem toDs_eq {cs : Nat → Option Cell} : ∀ l : List α, toDs cs (l.map E.p) = some (l.map E.d)
  | [] => by rw [List.map_nil, toDs]; rfl
  | a :: l => by rw [List.map_cons, toDs, E.pd, toDs_eq l]; rfl
theorem lay_all : ∀ l : List α, PyData.canLayAll0 (l.map E.d) = true
  | [] => by rw [List.map_nil, PyData.canLayAll0]
  | a :: l => by rw [List.map_cons, PyData.canLayAll0, E.lay, lay_all l]; rfl
theorem dep_all : ∀ l : List α, PyData.depthAll (l.map E.d) ≤ E.m
  | [] => by rw [List.map_nil, PyData.depthAll]; exact Nat.zero_le _
  | a :: l => by
    rw [List.map_cons, PyData.depthAll]
    have := E.dep a
    have := dep_all l
    omega
theorem eqv_all : ∀ a b : List α, PyData.eqvAll (a.map E.d) (b.map E.d) = decide (a = b)
  | [], [] => by rw [List.map_nil, PyData.eqvAll]; rfl
  | [], y :: b => by rw [List.map_nil, List.map_cons, PyData.eqvAll]; rfl
  | x :: a, [] => by rw [List.map_nil, List.map_cons, PyData.eqvAll]; rfl
  | x :: a, y :: b => by
    rw [List.map_cons, List.map_cons, PyData.eqvAll, E.eq, eqv_all a b]
    by_cases h : x = y
    · subst h; simp
    · simp [h]
def int : EqE Int where
  p := .int
  d := .int
  m := 0
  pd := fun a cs => by rw [PV.toD]
  lay := fun a => by rw [PyData.canLay0]
  dep := fun a => by rw [PyData.depth]; exact Nat.le_refl _
  eq := fun a b => by rw [PyData.eqv]; by_cases h : a = b <;> simp [h]
def tup : EqE (List α) where
  p := fun l => .tup (l.map E.p)
  d := fun l => .tuple (l.map E.d)
  m := E.m + 1
  pd := fun a cs => by rw [PV.toD, E.toDs_eq]; rfl
  lay := fun a => by rw [PyData.canLay0, E.lay_all]
  dep := fun a => by rw [PyData.depth]; have := E.dep_all a; omega
  eq := fun a b => by rw [PyData.eqv, E.eqv_all]
def list : EqE (List α) where
  p := fun l => .lst (l.map E.p)
  d := fun l => .list (l.map E.d)
  m := E.m + 1
  pd := fun a cs => by rw [PV.toD, E.toDs_eq]; rfl
  lay := fun a => by rw [PyData.canLay0, E.lay_all]
  dep := fun a => by rw [PyData.depth]; have := E.dep_all a; omega
  eq := fun a b => by rw [PyData.eqv, E.eqv_all]
def pair : EqE (α × β) where
  p := fun x => .tup [E.p x.1, F.p x.2]
  d := fun x => .tuple [E.d x.1, F.d x.2]
  m := max E.m F.m + 1
  pd := fun x cs => by rw [PV.toD, toDs, toDs, toDs, E.pd, F.pd]; rfl
  lay := fun x => by rw [PyData.canLay0, PyData.canLayAll0, PyData.canLayAll0, PyData.canLayAll0, E.lay, F.lay]; rfl
  dep := fun x => by
    rw [PyData.depth, PyData.depthAll, PyData.depthAll, PyData.depthAll]
    have := E.dep x.1
    have := F.dep x.2
    omega
  eq := fun x y => by
    rw [PyData.eqv, PyData.eqvAll, PyData.eqvAll, PyData.eqvAll, E.eq, F.eq]
    by_cases h1 : x.1 = y.1
    · by_cases h2 : x.2 = y.2
      · simp [h1, h2, Prod.ext_iff]
      · simp [h1, h2, Prod.ext_iff]
    · simp [h1, Prod.ext_iff]
def tri : EqE (α × β × γ) where
  p := fun x => .tup [E.p x.1, F.p x.2.1, G.p x.2.2]
  d := fun x => .tuple [E.d x.1, F.d x.2.1, G.d x.2.2]
  m := max E.m (max F.m G.m) + 1
  pd := fun x cs => by rw [PV.toD, toDs, toDs, toDs, toDs, E.pd, F.pd, G.pd]; rfl
  lay := fun x => by rw [PyData.canLay0, PyData.canLayAll0, PyData.canLayAll0, PyData.canLayAll0, PyData.canLayAll0, E.lay, F.lay, G.lay]; rfl
  dep := fun x => by
    rw [PyData.depth, PyData.depthAll, PyData.depthAll, PyData.depthAll, PyData.depthAll]
    have := E.dep x.1
    have := F.dep x.2.1
    have := G.dep x.2.2
    omega
  eq := fun x y => by
    rw [PyData.eqv, PyData.eqvAll, PyData.eqvAll, PyData.eqvAll, PyData.eqvAll, E.eq, F.eq, G.eq]
    by_cases h1 : x.1 = y.1
    · by_cases h2 : x.2.1 = y.2.1
      · by_cases h3 : x.2.2 = y.2.2
        · simp [h1, h2, h3, Prod.ext_iff]
        · simp [h1, h2, h3, Prod.ext_iff]
      · simp [h1, h2, Prod.ext_iff]
    · simp [h1, Prod.ext_iff]
theorem derf_p {st : Sto} (a : α) : derf st (E.p a) = E.p a := by
  have h := E.pd a st.cs
  cases e : E.p a with
  | loc l => rw [e, PV.toD] at h; cases h
  | _ => rfl
theorem shaped (hm : E.m ≤ 64) (a : α) : SeqAt.shaped (E.d a) = true := by
  unfold SeqAt.shaped
  rw [E.lay, decide_eq_true (show (E.d a).depth ≤ 64 from Nat.le_trans (E.dep a) hm)]
  rfl
theorem cmpEq {neg : Bool} {x y : PV} {a b : α} {st : Sto} (h1 : derf st x = E.p a) (h2 : derf st y = E.p b) (hm : E.m ≤ 64) : DL.cmpEq neg x y st = some (.bl (decide (a = b) != neg), st) := by
  unfold DL.cmpEq
  rw [h1, h2, E.pd, E.pd]
  show (if SeqAt.shaped (E.d a) && SeqAt.shaped (E.d b) then some (PV.bl (PyData.eqv (E.d a) (E.d b) != neg), st) else none) = _
  rw [E.shaped hm, E.shaped hm, E.eq]
  rfl
theorem mem_any (a : α) : ∀ l : List α, ((l.map E.d).any fun z => PyData.eqv z (E.d a)) = decide (a ∈ l)
  | [] => rfl
  | b :: l => by
    rw [List.map_cons, List.any_cons, E.eq, mem_any a l]
    by_cases h : b = a
    · subst h; simp
    · have h2 : ¬ a = b := fun z => h z.symm
      simp [h, h2]
theorem cmpIn {neg : Bool} {y : PV} {a : α} {l : List α} {st : Sto} (h : lstOf st y = some (l.map E.p)) (hf : flatP (E.p a) = false) (hm : E.m ≤ 60) : DL.cmpIn neg (E.p a) y st = some (.bl (decide (a ∈ l) != neg), st) := by
  have hd : dctOf st y = none := by
    cases y with
    | loc l =>
      have h : (match st.cs l with | some (.lst xs) => some xs | _ => none) = _ := h
      show (match st.cs l with | some (.dct ks vs) => some (ks, vs) | _ => none) = none
      split at h
      · rename_i e; rw [e]
      · cases h
    | dct _ _ => cases h
    | _ => rfl
  have hs : seqOf st y = some (l.map E.p) := by
    cases y with
    | lst ys => exact h
    | loc l => exact h
    | _ => cases h
  have hk : dkiOf st y = none := by
    cases y with
    | loc l =>
      have h : (match st.cs l with | some (.lst xs) => some xs | _ => none) = _ := h
      show (match st.cs l with | some (.dki ks vs) => some (ks, vs) | _ => none) = none
      split at h
      · rename_i e; rw [e]
      · cases h
    | dki _ _ => cases h
    | _ => rfl
  unfold DL.cmpIn
  rw [hk, hd]
  show cmpInS neg (E.p a) y st = _
  unfold cmpInS
  rw [hs]
  show (if (flatP (E.p a) && (l.map E.p).all flatP) = true then _ else _) = _
  rw [hf, Bool.false_and, if_neg Bool.false_ne_true, h]
  show (match (derf st (E.p a)).toD st.cs, toDs st.cs (l.map E.p) with | some d, some ds => if SeqAt.shaped d && SeqAt.shaped (.list ds) then some (PV.bl ((ds.any fun z => PyData.eqv z d) != neg), st) else none | _, _ => none) = _
  rw [E.derf_p, E.pd, E.toDs_eq]
  show (if SeqAt.shaped (E.d a) && SeqAt.shaped (.list (l.map E.d)) then some (PV.bl (((l.map E.d).any fun z => PyData.eqv z (E.d a)) != neg), st) else none) = _
  rw [E.shaped (by omega), show SeqAt.shaped (.list (l.map E.d)) = true from E.list.shaped (by show E.m + 1 ≤ 64; omega) l, E.mem_any]
  rfl
end EqE
/-! Ord: rows that are sorted, rows that are keys of dicts (no program) -/
/-- a kind of rows: as values, as data, as keys -/
structure Enc (α : Type) where
  p : α → PV
  d : α → PyData
  k : α → NestedKey
  pd : ∀ (a : α) (cs : Nat → Option Cell), (p a).toD cs = some (d a)
  pk : ∀ a, NK (p a) = some (k a)
  tp : ∀ a, ∃ xs, p a = .tup xs
  nt : ∀ a, noText (k a) = true
  dp : ∀ a, (k a).depth ≤ 8
  al : ∀ a b, PySem.W.alike (d a) (d b) = true
  dd : ∀ a, (d a).depth ≤ 30
  ki : ∀ a b, PySem.W.keyToks (d a) = PySem.W.keyToks (d b) → a = b
  ni : ∀ a b, k a = k b → a = b
namespace Enc
variable {α : Type} (E : Enc α)
def le (a b : α) : Bool := !PySem.W.dataLt (E.d b) (E.d a)
theorem tot (a b : α) : (E.le a b || E.le b a) = true := by
  unfold le
  cases h : PySem.W.dataLt (E.d b) (E.d a) with
  | false => rfl
  | true =>
    cases h2 : PySem.W.dataLt (E.d a) (E.d b) with
    | false => rfl
    | true =>
      have := PyProof.Rows.lex_trans _ _ _ h h2
      rw [PyProof.Rows.lex_irrefl] at this
      cases this
theorem tr (a b c : α) (h1 : E.le a b = true) (h2 : E.le b c = true) : E.le a c = true := by
  unfold le at *
  rw [Bool.not_eq_true'] at *
  cases h : PySem.W.dataLt (E.d c) (E.d a) with
  | false => rfl
  | true =>
    rcases PyProof.Rows.lex_negTrans _ (PySem.W.keyToks (E.d b)) _ h with h | h
    · have h2 : PyProof.Rows.lexLt PyProof.Rows.itemOrd (PySem.W.keyToks (E.d c)) (PySem.W.keyToks (E.d b)) = false := h2
      rw [h] at h2; cases h2
    · have h1 : PyProof.Rows.lexLt PyProof.Rows.itemOrd (PySem.W.keyToks (E.d b)) (PySem.W.keyToks (E.d a)) = false := h1
      rw [h] at h1; cases h1
theorem an {a b : α} (h1 : E.le a b = true) (h2 : E.le b a = true) : a = b := by
  unfold le at *
  rw [Bool.not_eq_true'] at *
  exact E.ki a b (PyProof.Rows.lex_total _ _ h2 h1)
theorem leP_eq (a b : α) : leP (E.p a) (E.p b) = E.le a b := by
  unfold leP
  rw [E.pd, E.pd]
  rfl
theorem toDs_eq {cs : Nat → Option Cell} : ∀ l : List α, toDs cs (l.map E.p) = some (l.map E.d)
  | [] => by rw [List.map_nil, toDs]; rfl
  | a :: l => by rw [List.map_cons, toDs, E.pd, toDs_eq l]; rfl
def sort (l : List α) : List α := l.mergeSort E.le
theorem sort_perm (l : List α) : (E.sort l).Perm l := List.mergeSort_perm _ _
theorem sort_sorted (l : List α) : (E.sort l).Pairwise fun a b => E.le a b = true := List.pairwise_mergeSort (E.tr) (E.tot) l
theorem sort_mem {l : List α} {a : α} : a ∈ E.sort l ↔ a ∈ l := (E.sort_perm l).mem_iff
theorem sort_len (l : List α) : (E.sort l).length = l.length := (E.sort_perm l).length_eq
theorem sortGo_eq {m : Bool} {l : List α} {st : Sto} (hz : l.length ≤ sizeLine) (hne : ∀ a ∈ l, ∃ x r, E.d a = .tuple (x :: r)) : sortGo m (l.map E.p) st = mkL m ((E.sort l).map E.p) st := by
  unfold sortGo
  rw [E.toDs_eq]
  have ok : okSort (l.map E.d) = true := by
    rw [okSort_iff]
    refine ⟨fun d hd d' hd' => ?_, .inl fun d hd => ?_, by rw [List.length_map]; exact hz, fun d hd => ?_⟩
    · obtain ⟨a, _, rfl⟩ := List.mem_map.mp hd
      obtain ⟨b, _, rfl⟩ := List.mem_map.mp hd'
      exact E.al a b
    · obtain ⟨a, ha, rfl⟩ := List.mem_map.mp hd
      exact hne a ha
    · obtain ⟨a, _, rfl⟩ := List.mem_map.mp hd
      exact E.dd a
  show (if okSort (l.map E.d) then mkL m ((l.map E.p).mergeSort leP) st else none) = _
  rw [if_pos ok]
  have e : (l.map E.p).mergeSort leP = (E.sort l).map E.p := by
    unfold sort
    exact (List.map_mergeSort fun a _ b _ => (E.leP_eq a b).symm).symm
  rw [e]
theorem sorted_eq {m : Bool} {l : List α} {v : PV} {st : Sto} (hv : lstOf st v = some (l.map E.p)) (hz : l.length ≤ sizeLine) (hne : ∀ a ∈ l, ∃ x r, E.d a = .tuple (x :: r)) : bSorted m [v] st = mkL m ((E.sort l).map E.p) st := by
  show (match lstOf st v with | some xs => sortGo m xs st | none => _) = _
  rw [hv]
  exact E.sortGo_eq hz hne
/-- sorted rows, each once, are what their members are -/
theorem uniq : ∀ {a b : List α}, a.Pairwise (fun x y => E.le x y = true) → b.Pairwise (fun x y => E.le x y = true) → a.Nodup → b.Nodup → (∀ x, x ∈ a ↔ x ∈ b) → a = b
  | [], [], _, _, _, _, _ => rfl
  | [], y :: b, _, _, _, _, h => absurd ((h y).mpr List.mem_cons_self) (by simp)
  | x :: a, [], _, _, _, _, h => absurd ((h x).mp List.mem_cons_self) (by simp)
  | x :: a, y :: b, sa, sb, na, nb, h => by
    rw [List.pairwise_cons] at sa sb
    rw [List.nodup_cons] at na nb
    have e : x = y := by
      rcases List.mem_cons.mp ((h x).mp List.mem_cons_self) with e | hx
      · exact e
      · rcases List.mem_cons.mp ((h y).mpr List.mem_cons_self) with e | hy
        · exact e.symm
        · exact E.an (sa.1 y hy) (sb.1 x hx)
    subst e
    rw [uniq sa.2 sb.2 na.2 nb.2 fun z => ?_]
    constructor
    · intro hz
      rcases List.mem_cons.mp ((h z).mp (List.mem_cons_of_mem _ hz)) with e | hz2
      · exact absurd (e ▸ hz) na.1
      · exact hz2
    · intro hz
      rcases List.mem_cons.mp ((h z).mpr (List.mem_cons_of_mem _ hz)) with e | hz2
      · exact absurd (e ▸ hz) nb.1
      · exact hz2
theorem isTK_eq (a : α) : isTK (E.p a) = true := by
  obtain ⟨xs, hx⟩ := E.tp a
  have h := E.pk a
  rw [hx] at h ⊢
  show (match NK (.tup xs) with | some k => noText k && decide (k.depth ≤ 8) | none => false) = true
  rw [h]
  show (noText (E.k a) && decide ((E.k a).depth ≤ 8)) = true
  rw [E.nt, decide_eq_true (E.dp a)]; rfl
theorem good (l : List α) (a : α) : goodK (l.map E.p) (E.p a) = true := by
  rw [goodK_iff]
  refine ⟨fun x hx => ?_, E.isTK_eq a⟩
  obtain ⟨b, _, rfl⟩ := List.mem_map.mp hx
  exact E.isTK_eq b
theorem keyEq_eq [DecidableEq α] (a b : α) : keyEq (E.p a) (E.p b) = decide (a = b) := by
  rw [keyEq_iff (E.pk a) (E.pk b)]
  by_cases h : a = b
  · subst h; simp
  · rw [decide_eq_false h, decide_eq_false fun z => h (E.ni a b z)]
theorem lb0 (a : α) : (E.p a).lb 0 = true := nk_lb (E.pk a)
theorem lb (a : α) {n : Nat} : (E.p a).lb n = true := PV.lb_mono (Nat.zero_le _) (E.lb0 a)
end Enc
/-! tables -/
section
variable {α β : Type} [DecidableEq α]
def aget (k : α) : List (α × β) → Option β
  | [] => none
  | x :: r => if x.1 = k then some x.2 else aget k r
def aput (k : α) (v : β) : List (α × β) → List (α × β)
  | [] => [(k, v)]
  | x :: r => if x.1 = k then (x.1, v) :: r else x :: aput k v r
theorem aget_put (k j : α) (v : β) : ∀ D : List (α × β), aget j (aput k v D) = if k = j then some v else aget j D
  | [] => by
    show (if k = j then some v else none) = _
    rfl
  | x :: r => by
    show aget j (if x.1 = k then (x.1, v) :: r else x :: aput k v r) = _
    by_cases e : x.1 = k
    · rw [if_pos e]
      subst e
      show (if x.1 = j then some v else aget j r) = (if x.1 = j then some v else if x.1 = j then some x.2 else aget j r)
      by_cases f : x.1 = j
      · rw [if_pos f, if_pos f]
      · rw [if_neg f, if_neg f, if_neg f]
    · rw [if_neg e]
      show (if x.1 = j then some x.2 else aget j (aput k v r)) = (if k = j then some v else if x.1 = j then some x.2 else aget j r)
      rw [aget_put k j v r]
      by_cases f : x.1 = j
      · rw [if_pos f, if_pos f, if_neg (fun z => e (f.trans z.symm))]
      · rw [if_neg f, if_neg f]
theorem akeys_put (k : α) (v : β) : ∀ D : List (α × β), ∀ j, j ∈ (aput k v D).map (·.1) ↔ j = k ∨ j ∈ D.map (·.1)
  | [], j => by
    show j ∈ [k] ↔ _
    simp
  | x :: r, j => by
    show j ∈ (if x.1 = k then (x.1, v) :: r else x :: aput k v r).map (·.1) ↔ _
    by_cases e : x.1 = k
    · rw [if_pos e, List.map_cons, List.map_cons, List.mem_cons]
      subst e
      constructor
      · intro h; exact .inr h
      · intro h
        rcases h with h | h
        · exact .inl h
        · exact h
    · rw [if_neg e, List.map_cons, List.map_cons, List.mem_cons, List.mem_cons, akeys_put k v r j]
      constructor
      · rintro (h | h | h)
        · exact .inr (.inl h)
        · exact .inl h
        · exact .inr (.inr h)
      · rintro (h | h | h)
        · exact .inr (.inl h)
        · exact .inl h
        · exact .inr (.inr h)
theorem anodup_put (k : α) (v : β) : ∀ D : List (α × β), (D.map (·.1)).Nodup → ((aput k v D).map (·.1)).Nodup
  | [], _ => by
    show [k].Nodup
    simp
  | x :: r, h => by
    rw [List.map_cons, List.nodup_cons] at h
    show ((if x.1 = k then (x.1, v) :: r else x :: aput k v r).map (·.1)).Nodup
    by_cases e : x.1 = k
    · rw [if_pos e, List.map_cons, List.nodup_cons]
      exact h
    · rw [if_neg e, List.map_cons, List.nodup_cons]
      refine ⟨fun z => ?_, anodup_put k v r h.2⟩
      rcases (akeys_put k v r _).mp z with z | z
      · exact e z
      · exact h.1 z
theorem aput_len (k : α) (v : β) : ∀ D : List (α × β), (aput k v D).length ≤ D.length + 1
  | [] => Nat.le_refl _
  | x :: r => by
    show (if x.1 = k then (x.1, v) :: r else x :: aput k v r).length ≤ _
    split
    · rw [List.length_cons, List.length_cons]; omega
    · have := aput_len k v r
      rw [List.length_cons, List.length_cons]; omega
theorem aget_mem {k : α} : ∀ {D : List (α × β)}, (aget k D).isSome = true ↔ k ∈ D.map (·.1)
  | [] => by simp [aget]
  | x :: r => by
    show (if x.1 = k then some x.2 else aget k r).isSome = true ↔ _
    rw [List.map_cons, List.mem_cons]
    by_cases e : x.1 = k
    · rw [if_pos e]
      exact ⟨fun _ => .inl e.symm, fun _ => rfl⟩
    · rw [if_neg e, aget_mem (D := r)]
      exact ⟨.inr, fun h => h.resolve_left fun z => e z.symm⟩
variable (E : Enc α) (vp : β → PV)
def akP (D : List (α × β)) : List PV := D.map fun x => E.p x.1
def avP (D : List (α × β)) : List PV := D.map fun x => vp x.2
theorem akP_map (D : List (α × β)) : akP E D = (D.map (·.1)).map E.p := by unfold akP; rw [List.map_map]; rfl
theorem ak_good (D : List (α × β)) (k : α) : goodK (akP E D) (E.p k) = true := by rw [akP_map]; exact E.good _ k
theorem ak_len (D : List (α × β)) : (akP E D).length = D.length := List.length_map _
theorem dlook_eq (k : α) : ∀ D : List (α × β), dlook (akP E D) (avP vp D) (E.p k) = (aget k D).map vp
  | [] => rfl
  | x :: r => by
    show (if keyEq (E.p x.1) (E.p k) then some (vp x.2) else dlook (akP E r) (avP vp r) (E.p k)) = (if x.1 = k then some x.2 else aget k r).map vp
    rw [E.keyEq_eq]
    by_cases e : x.1 = k
    · rw [if_pos (decide_eq_true e), if_pos e]; rfl
    · rw [if_neg (by rw [decide_eq_false e]; decide), if_neg e]
      exact dlook_eq k r
theorem dput_eq (k : α) (v : β) : ∀ D : List (α × β), dput (akP E D) (avP vp D) (E.p k) (vp v) = (akP E (aput k v D), avP vp (aput k v D))
  | [] => rfl
  | x :: r => by
    show (if keyEq (E.p x.1) (E.p k) then (E.p x.1 :: akP E r, vp v :: avP vp r) else (E.p x.1 :: (dput (akP E r) (avP vp r) (E.p k) (vp v)).1, vp x.2 :: (dput (akP E r) (avP vp r) (E.p k) (vp v)).2)) = _
    rw [E.keyEq_eq, dput_eq k v r]
    show _ = (akP E (if x.1 = k then (x.1, v) :: r else x :: aput k v r), avP vp (if x.1 = k then (x.1, v) :: r else x :: aput k v r))
    by_cases e : x.1 = k
    · rw [if_pos (decide_eq_true e), if_pos e]; rfl
    · rw [if_neg (by rw [decide_eq_false e]; decide), if_neg e]; rfl
theorem ak_lb (D : List (α × β)) {n : Nat} : lbs n (akP E D) = true := lbs_map (fun x => E.lb x.1) D
end
/-! rows of ints -/
theorem toks_ints : ∀ (a b : List Int) (x y : List (Int ⊕ List Nat)), PySem.W.keyToksAll (a.map PyData.int) ++ x = PySem.W.keyToksAll (b.map PyData.int) ++ y → a = b ∧ x = y
  | [], [], x, y, h => by
    rw [List.map_nil, PySem.W.keyToksAll] at h
    exact ⟨rfl, (List.cons.inj h).2⟩
  | [], y :: b, _, _, h => by
    rw [List.map_nil, List.map_cons, PySem.W.keyToksAll, PySem.W.keyToksAll] at h
    exact absurd (List.cons.inj h).1 (by decide)
  | x :: a, [], _, _, h => by
    rw [List.map_nil, List.map_cons, PySem.W.keyToksAll, PySem.W.keyToksAll] at h
    exact absurd (List.cons.inj h).1 (by decide)
  | x :: a, y :: b, u, v, h => by
    rw [List.map_cons, List.map_cons, PySem.W.keyToksAll, PySem.W.keyToksAll, PySem.W.keyToks, PySem.W.keyToks] at h
    have h := (List.cons.inj h).2
    have h1 := List.cons.inj h
    obtain ⟨e1, e2⟩ := toks_ints a b u v h1.2
    have e3 : x = y := Sum.inl.inj h1.1
    rw [e1, e3]; exact ⟨rfl, e2⟩
theorem NKs_ints : ∀ a : List Int, NKs (a.map .int) = some (a.map NestedKey.num)
  | [] => by rw [List.map_nil, NKs]; rfl
  | x :: a => by rw [List.map_cons, NKs, NK, NKs_ints a]; rfl
theorem noTexts_ints : ∀ a : List Int, noTexts (a.map NestedKey.num) = true
  | [] => by rw [List.map_nil, noTexts]
  | x :: a => by rw [List.map_cons, noTexts, noText, noTexts_ints a]; rfl
theorem num_inj : ∀ {a b : List Int}, a.map NestedKey.num = b.map NestedKey.num → a = b
  | [], [], _ => rfl
  | [], _ :: _, h => by cases h
  | _ :: _, [], h => by cases h
  | x :: a, y :: b, h => by
    rw [List.map_cons, List.map_cons] at h
    have h := List.cons.inj h
    rw [num_inj h.2, NestedKey.num.inj h.1]
theorem alike_ints : ∀ a b : List Int, PySem.W.alikeAll (a.map PyData.int) (b.map PyData.int) = true
  | [], _ => by rw [List.map_nil, PySem.W.alikeAll]
  | x :: a, [] => by rw [List.map_cons, List.map_nil, PySem.W.alikeAll]
  | x :: a, y :: b => by rw [List.map_cons, List.map_cons, PySem.W.alikeAll, PySem.W.alike, alike_ints a b]; rfl
theorem depth_ints : ∀ a : List Int, PyData.depthAll (a.map PyData.int) = 0
  | [] => by rw [List.map_nil, PyData.depthAll]
  | x :: a => by rw [List.map_cons, PyData.depthAll, PyData.depth, depth_ints a]; rfl
theorem kdepth_ints : ∀ a : List Int, NestedKey.depthAll (a.map NestedKey.num) = 0
  | [] => by rw [List.map_nil, NestedKey.depthAll]
  | x :: a => by rw [List.map_cons, NestedKey.depthAll, NestedKey.depth, kdepth_ints a]; rfl
def tD (a : List Int) : PyData := .tuple (a.map .int)
def tK (a : List Int) : NestedKey := .tup (a.map .num)
theorem tK_eq (a : List Int) : NK (tT a) = some (tK a) := by
  unfold tT tK
  rw [NK, NKs_ints]; rfl
def rE : Enc (List Int) where
  p := tT
  d := tD
  k := tK
  pd := fun a cs => toD_tT
  pk := tK_eq
  tp := fun a => ⟨_, rfl⟩
  nt := fun a => by unfold tK; rw [noText, noTexts_ints]
  dp := fun a => by unfold tK; rw [NestedKey.depth, kdepth_ints]; decide
  al := fun a b => by unfold tD; rw [PySem.W.alike, alike_ints]
  dd := fun a => by unfold tD; rw [PyData.depth, depth_ints]; decide
  ki := fun a b h => by
    unfold tD at h
    rw [PySem.W.keyToks, PySem.W.keyToks] at h
    exact (toks_ints a b [] [] (by rw [h])).1
  ni := fun a b h => num_inj (NestedKey.tup.inj h)
/-- a time and a record -/
abbrev Key := List Int × List Int
def kP (k : Key) : PV := .tup [tT k.1, tT k.2]
def kE : Enc Key where
  p := kP
  d := fun k => .tuple [tD k.1, tD k.2]
  k := fun k => .tup [tK k.1, tK k.2]
  pd := fun k cs => by
    unfold kP
    rw [PV.toD, toDs, toDs, toDs, toD_tT, toD_tT]
    rfl
  pk := fun k => by
    unfold kP
    rw [NK, NKs, NKs, NKs, tK_eq, tK_eq]; rfl
  tp := fun k => ⟨_, rfl⟩
  nt := fun k => by rw [noText, noTexts, noTexts, noTexts, show noText (tK k.1) = true from rE.nt k.1, show noText (tK k.2) = true from rE.nt k.2]; rfl
  dp := fun k => by
    rw [NestedKey.depth, NestedKey.depthAll, NestedKey.depthAll, NestedKey.depthAll]
    have h1 : (tK k.1).depth ≤ 1 := by unfold tK; rw [NestedKey.depth, kdepth_ints]; decide
    have h2 : (tK k.2).depth ≤ 1 := by unfold tK; rw [NestedKey.depth, kdepth_ints]; decide
    omega
  al := fun a b => by rw [PySem.W.alike, PySem.W.alikeAll, PySem.W.alikeAll, PySem.W.alikeAll, show PySem.W.alike (tD a.1) (tD b.1) = true from rE.al a.1 b.1, show PySem.W.alike (tD a.2) (tD b.2) = true from rE.al a.2 b.2]; rfl
  dd := fun k => by
    rw [PyData.depth, PyData.depthAll, PyData.depthAll, PyData.depthAll]
    have h1 : (tD k.1).depth ≤ 1 := by unfold tD; rw [PyData.depth, depth_ints]; decide
    have h2 : (tD k.2).depth ≤ 1 := by unfold tD; rw [PyData.depth, depth_ints]; decide
    omega
  ki := fun a b h => by
    rw [PySem.W.keyToks, PySem.W.keyToks, PySem.W.keyToksAll, PySem.W.keyToksAll, PySem.W.keyToksAll, PySem.W.keyToksAll, PySem.W.keyToksAll, PySem.W.keyToksAll] at h
    unfold tD at h
    rw [PySem.W.keyToks, PySem.W.keyToks, PySem.W.keyToks, PySem.W.keyToks] at h
    have h := (List.cons.inj h).2
    obtain ⟨e1, h⟩ := toks_ints _ _ _ _ h
    have h := (List.cons.inj h).2
    obtain ⟨e2, _⟩ := toks_ints _ _ _ _ h
    exact Prod.ext e1 e2
  ni := fun a b h => by
    have h := NestedKey.tup.inj h
    have h1 := List.cons.inj h
    have h2 := List.cons.inj h1.2
    exact Prod.ext (rE.ni _ _ h1.1) (rE.ni _ _ h2.1)
end DL

namespace DL
open PySem L2
/-! P_k11: sets of columns, matchings, chains -/
theorem nodup_len {α : Type} [DecidableEq α] : ∀ {a b : List α}, a.Nodup → (∀ x ∈ a, x ∈ b) → a.length ≤ b.length
  | [], _, _, _ => Nat.zero_le _
  | x :: a, b, h, hs => by
    have h := List.nodup_cons.mp h
    have hx := hs x List.mem_cons_self
    have := nodup_len (a := a) (b := b.erase x) h.2 fun y hy => by
      have hne : y ≠ x := fun e => h.1 (e ▸ hy)
      exact (List.mem_erase_of_ne hne).mpr (hs y (List.mem_cons_of_mem _ hy))
    rw [List.length_erase_of_mem hx] at this
    have : 0 < b.length := List.length_pos_of_mem hx
    rw [List.length_cons]; omega
theorem nodup_back {α : Type} [DecidableEq α] {a b : List α} (h : a.Nodup) (hs : ∀ x ∈ a, x ∈ b) (hl : b.length ≤ a.length) {x : α} (hx : x ∈ b) : x ∈ a := by
  by_cases e : x ∈ a
  · exact e
  · have := nodup_len (a := x :: a) (b := b) (List.nodup_cons.mpr ⟨e, h⟩) fun y hy => by
      rcases List.mem_cons.mp hy with rfl | hy
      · exact hx
      · exact hs y hy
    rw [List.length_cons] at this; omega
theorem nodup_map {α β : Type} {f : α → β} {l : List α} (h : l.Nodup) (hf : ∀ x ∈ l, ∀ y ∈ l, f x = f y → x = y) : (l.map f).Nodup := by
  induction l with
  | nil => exact List.nodup_nil
  | cons x l ih =>
    have h := List.nodup_cons.mp h
    rw [List.map_cons, List.nodup_cons]
    refine ⟨fun hm => ?_, ih h.2 fun a ha b hb => hf a (List.mem_cons_of_mem _ ha) b (List.mem_cons_of_mem _ hb)⟩
    obtain ⟨y, hy, e⟩ := List.mem_map.mp hm
    have := hf y (List.mem_cons_of_mem _ hy) x List.mem_cons_self e
    exact h.1 (this ▸ hy)
theorem filter_split {α : Type} (p : α → Bool) : ∀ l : List α, (l.filter p).length + (l.filter fun x => !p x).length = l.length
  | [] => rfl
  | x :: l => by
    have := filter_split p l
    rw [List.filter_cons, List.filter_cons, List.length_cons]
    cases h : p x
    · simp only [Bool.not_false, Bool.false_eq_true, if_false, if_true, List.length_cons]; omega
    · simp only [Bool.not_true, Bool.false_eq_true, if_false, if_true, List.length_cons]; omega

def has (s o : List Int) : Bool := o.all fun c => s.contains c
theorem has_iff {s o : List Int} : has s o = true ↔ ∀ c ∈ o, c ∈ s := by
  unfold has
  rw [List.all_eq_true]
  exact ⟨fun h c hc => List.contains_iff_mem.mp (h c hc), fun h c hc => List.contains_iff_mem.mpr (h c hc)⟩
/-- a search: columns ascending, 0 to 5 -/
def Srch (s : List Int) : Prop := s.Pairwise (· < ·) ∧ ∀ c ∈ s, 0 ≤ c ∧ c ≤ 5
theorem Srch.nodup {s : List Int} (h : Srch s) : s.Nodup := h.1.imp fun h => by omega
theorem cols_len {s : List Int} (h : s.Nodup) (hc : ∀ c ∈ s, 0 ≤ c ∧ c ≤ 5) : s.length ≤ 6 :=
  nodup_len (b := [0, 1, 2, 3, 4, 5]) h fun c hx => by
    have := hc c hx
    have : c = 0 ∨ c = 1 ∨ c = 2 ∨ c = 3 ∨ c = 4 ∨ c = 5 := by omega
    simpa using this
theorem Srch.len {s : List Int} (h : Srch s) : s.length ≤ 6 := cols_len h.nodup h.2
/-- ascending lists of the same members are the same -/
theorem asc_ext : ∀ {a b : List Int}, a.Pairwise (· < ·) → b.Pairwise (· < ·) → (∀ c, c ∈ a ↔ c ∈ b) → a = b
  | [], [], _, _, _ => rfl
  | [], y :: b, _, _, h => absurd ((h y).mpr List.mem_cons_self) (by simp)
  | x :: a, [], _, _, h => absurd ((h x).mp List.mem_cons_self) (by simp)
  | x :: a, y :: b, ha, hb, h => by
    have ha := List.pairwise_cons.mp ha
    have hb := List.pairwise_cons.mp hb
    have e : x = y := by
      have h1 := (h x).mp List.mem_cons_self
      have h2 := (h y).mpr List.mem_cons_self
      rcases List.mem_cons.mp h1 with h1 | h1
      · exact h1
      · rcases List.mem_cons.mp h2 with h2 | h2
        · exact h2.symm
        · have := ha.1 y h2
          have := hb.1 x h1
          omega
    subst e
    rw [asc_ext ha.2 hb.2 fun c => ?_]
    have := h c
    constructor
    · intro hc
      rcases List.mem_cons.mp (this.mp (List.mem_cons_of_mem _ hc)) with rfl | q
      · have := ha.1 c hc; omega
      · exact q
    · intro hc
      rcases List.mem_cons.mp (this.mpr (List.mem_cons_of_mem _ hc)) with rfl | q
      · have := hb.1 c hc; omega
      · exact q

/-! what both judge -/
def badAt (o : List Int) (k : Nat) : Bool := (o.take k).contains (o.getD k 0) || !(decide (0 ≤ o.getD k 0) && decide (o.getD k 0 ≤ 5))
def ordB (o : List Int) : Bool := (List.range o.length).all fun k => !badAt o k
def servB (o s : List Int) : Bool := decide ((o.take s.length).length = s.length) && has (o.take s.length) s
def apAt (S P : List (List Int)) (k : Nat) : Bool := S.contains (P.getD k []) && (P.take k).all fun q => !(has (P.getD k []) q || has q (P.getD k []))
def apB (S P : List (List Int)) : Bool := (List.range P.length).all fun k => apAt S P k
def judge (S O P : List (List Int)) : Bool := O.all ordB && S.all (fun s => O.any fun o => servB o s) && apB S P && decide (O.length = P.length)

theorem ordB_of {o : List Int} (h : o.Nodup) (hc : ∀ c ∈ o, 0 ≤ c ∧ c ≤ 5) : ordB o = true := by
  unfold ordB
  rw [List.all_eq_true]
  intro k hk
  have hk := List.mem_range.mp hk
  unfold badAt
  rw [List.getD_eq_getElem?_getD, List.getElem?_eq_getElem hk, Option.getD_some]
  have h1 := hc o[k] (List.getElem_mem hk)
  rw [decide_eq_true h1.1, decide_eq_true h1.2]
  have : (o.take k).contains o[k] = false := by
    rw [Bool.eq_false_iff]
    intro e
    obtain ⟨j, hj, e⟩ := List.mem_iff_getElem.mp (List.contains_iff_mem.mp e)
    rw [List.getElem_take] at e
    rw [List.length_take] at hj
    have := (List.pairwise_iff_getElem.mp h) j k (by omega) hk (by omega)
    exact this e
  rw [this]
  rfl
theorem serv_iff {o s : List Int} : servB o s = true ↔ (o.take s.length).length = s.length ∧ ∀ c ∈ s, c ∈ o.take s.length := by
  unfold servB
  rw [Bool.and_eq_true, decide_eq_true_iff, has_iff]
/-- two searches that one order serves lie one within the other -/
theorem serv_two {o p q : List Int} (hp : p.Nodup) (hq : q.Nodup) (h1 : servB o p = true) (h2 : servB o q = true) : has p q = true ∨ has q p = true := by
  rw [serv_iff] at h1 h2
  have go : ∀ {p q : List Int}, q.Nodup → ((o.take p.length).length = p.length ∧ ∀ c ∈ p, c ∈ o.take p.length) → ((o.take q.length).length = q.length ∧ ∀ c ∈ q, c ∈ o.take q.length) → p.length ≤ q.length → has q p = true := by
    intro p q hq h1 h2 hl
    rw [has_iff]
    intro c hc
    have h3 := h1.2 c hc
    have h4 : c ∈ o.take q.length := by
      rw [show o.take p.length = (o.take q.length).take p.length by rw [List.take_take, Nat.min_eq_left hl]] at h3
      exact List.mem_of_mem_take h3
    exact nodup_back hq h2.2 (by omega) h4
  by_cases h : p.length ≤ q.length
  · exact .inr (go hq h1 h2 h)
  · exact .inl (go hp h2 h1 (by omega))
theorem apB_iff {S P : List (List Int)} : apB S P = true ↔ (∀ p ∈ P, p ∈ S) ∧ ∀ i j (hi : i < P.length) (hj : j < P.length), i ≠ j → has P[i] P[j] = false := by
  unfold apB
  rw [List.all_eq_true]
  constructor
  · intro h
    have h' : ∀ k (hk : k < P.length), P[k] ∈ S ∧ ∀ j (hj : j < P.length), j < k → has P[k] P[j] = false ∧ has P[j] P[k] = false := fun k hk => by
      have := h k (List.mem_range.mpr hk)
      unfold apAt at this
      rw [List.getD_eq_getElem?_getD, List.getElem?_eq_getElem hk, Option.getD_some, Bool.and_eq_true, List.all_eq_true] at this
      refine ⟨List.contains_iff_mem.mp this.1, fun j hj hjk => ?_⟩
      have := this.2 P[j] (List.mem_iff_getElem.mpr ⟨j, by rw [List.length_take]; omega, by rw [List.getElem_take]⟩)
      rw [Bool.not_eq_true', Bool.or_eq_false_iff] at this
      exact this
    refine ⟨fun p hp => ?_, fun i j hi hj hij => ?_⟩
    · obtain ⟨k, hk, rfl⟩ := List.mem_iff_getElem.mp hp
      exact (h' k hk).1
    · by_cases q : j < i
      · exact ((h' i hi).2 j hj q).1
      · exact ((h' j hj).2 i hi (by omega)).2
  · rintro ⟨h1, h2⟩ k hk
    have hk := List.mem_range.mp hk
    unfold apAt
    rw [List.getD_eq_getElem?_getD, List.getElem?_eq_getElem hk, Option.getD_some, Bool.and_eq_true, List.all_eq_true]
    refine ⟨List.contains_iff_mem.mpr (h1 _ (List.getElem_mem hk)), fun q hq => ?_⟩
    obtain ⟨j, hj, rfl⟩ := List.mem_iff_getElem.mp hq
    rw [List.length_take] at hj
    rw [List.getElem_take, h2 k j hk (by omega) (by omega), h2 j k (by omega) hk (by omega)]
    rfl
/-- no more searches apart than orders -/
theorem weak {S O P : List (List Int)} (hn : ∀ s ∈ S, s.Nodup) (h1 : ∀ s ∈ S, ∃ o ∈ O, servB o s = true) (h2 : apB S P = true) : P.length ≤ O.length := by
  obtain ⟨hS, hP⟩ := apB_iff.mp h2
  have hf : ∀ p ∈ P, ∃ o, O.find? (fun o => servB o p) = some o ∧ o ∈ O ∧ servB o p = true := fun p hp => by
    obtain ⟨o, ho, hs⟩ := h1 p (hS p hp)
    cases e : O.find? (fun o => servB o p) with
    | none => exact absurd hs (by rw [List.find?_eq_none] at e; exact e o ho)
    | some o' => exact ⟨o', rfl, List.mem_of_find?_eq_some e, List.find?_some (p := fun o => servB o p) e⟩
  have hnd : P.Nodup := by
    refine List.pairwise_iff_getElem.mpr fun i j hi hj hij e => ?_
    have := hP i j hi hj (by omega)
    rw [e] at this
    rw [has_iff.mpr fun c hc => hc] at this
    cases this
  have := nodup_len (a := P.map fun p => (O.find? (fun o => servB o p)).getD []) (b := O) (nodup_map hnd fun p hp q hq e => ?_) fun x hx => ?_
  · rwa [List.length_map] at this
  · obtain ⟨o, e1, _, s1⟩ := hf p hp
    obtain ⟨o', e2, _, s2⟩ := hf q hq
    rw [e1, e2] at e
    have e : o = o' := e
    subst e
    obtain ⟨i, hi, rfl⟩ := List.mem_iff_getElem.mp hp
    obtain ⟨j, hj, rfl⟩ := List.mem_iff_getElem.mp hq
    by_cases hij : i = j
    · subst hij; rfl
    · rcases serv_two (hn _ (hS _ hp)) (hn _ (hS _ hq)) s1 s2 with h | h
      · rw [hP i j hi hj hij] at h; cases h
      · rw [hP j i hj hi (Ne.symm hij)] at h; cases h
  · obtain ⟨p, hp, rfl⟩ := List.mem_map.mp hx
    obtain ⟨o, e1, ho, _⟩ := hf p hp
    rw [e1]
    exact ho
theorem judge_iff {S O P : List (List Int)} : judge S O P = true ↔ (∀ o ∈ O, ordB o = true) ∧ (∀ s ∈ S, ∃ o ∈ O, servB o s = true) ∧ apB S P = true ∧ O.length = P.length := by
  unfold judge
  rw [Bool.and_eq_true, Bool.and_eq_true, Bool.and_eq_true, List.all_eq_true, List.all_eq_true, decide_eq_true_iff]
  constructor
  · rintro ⟨⟨⟨a, b⟩, c⟩, d⟩
    exact ⟨a, fun s hs => List.any_eq_true.mp (b s hs), c, d⟩
  · rintro ⟨a, b, c, d⟩
    exact ⟨⟨⟨a, fun s hs => List.any_eq_true.mpr (b s hs)⟩, c⟩, d⟩
theorem judge_same {S S' O P : List (List Int)} (h : ∀ s, s ∈ S ↔ s ∈ S') (hj : judge S O P = true) : judge S' O P = true := by
  obtain ⟨a, b, c, d⟩ := judge_iff.mp hj
  obtain ⟨c1, c2⟩ := apB_iff.mp c
  exact judge_iff.mpr ⟨a, fun s hs => b s ((h s).mpr hs), apB_iff.mpr ⟨fun p hp => (h p).mp (c1 p hp), c2⟩, d⟩
theorem judge_len {S O P O' P' : List (List Int)} (hn : ∀ s ∈ S, s.Nodup) (h : judge S O P = true) (h' : judge S O' P' = true) : O.length = O'.length := by
  obtain ⟨a, b, c, d⟩ := judge_iff.mp h
  obtain ⟨a', b', c', d'⟩ := judge_iff.mp h'
  have := weak hn b c'
  have := weak hn b' c
  omega
end DL

namespace DL
open PySem L2
/-! P2_k11: the matching -/
def upd {α : Type} (f : Nat → Option α) (k : Nat) (v : α) : Nat → Option α := fun x => if x = k then some v else f x
theorem upd_eq {α : Type} {f : Nat → Option α} {k : Nat} {v : α} : upd f k v k = some v := if_pos rfl
theorem upd_ne {α : Type} {f : Nat → Option α} {k x : Nat} {v : α} (h : x ≠ k) : upd f k v x = f x := if_neg h
theorem upd_some {α : Type} {f : Nat → Option α} {k x : Nat} {v w : α} (h : upd f k v x = some w) : (x = k ∧ v = w) ∨ (x ≠ k ∧ f x = some w) := by
  unfold upd at h
  split at h
  · rename_i e; exact .inl ⟨e, Option.some.inj h⟩
  · rename_i e; exact .inr ⟨e, h⟩
/-- after, before; p is a target whose source is to be found -/
structure Mat (n : Nat) (G : Nat → List Nat) (A B : Nat → Option Nat) (p : Option Nat) : Prop where
  ab : ∀ x y, A x = some y → B y = some x
  ba : ∀ x y, B y = some x → p ≠ some y → A x = some y
  pn : ∀ x t, p = some t → A x ≠ some t
  g : ∀ x y, A x = some y → y ∈ G x
  lt : ∀ x y, B y = some x → x < n ∧ y < n
structure Clo (G : Nat → List Nat) (B : Nat → Option Nat) (Z T : Nat → Prop) : Prop where
  gz : ∀ z t, Z z → t ∈ G z → T t
  tb : ∀ t, T t → ∃ z, B t = some z ∧ Z z
theorem Mat.flip {n : Nat} {G : Nat → List Nat} {A B : Nat → Option Nat} {t s : Nat} (M : Mat n G A B (some t)) (hg : t ∈ G s) (hs : s < n) (ht : t < n) : Mat n G (upd A s t) (upd B t s) (A s) where
  ab x y h := by
    rcases upd_some h with ⟨rfl, rfl⟩ | ⟨h1, h2⟩
    · exact upd_eq
    · have hne : y ≠ t := fun e => M.pn x t rfl (e ▸ h2)
      rw [upd_ne hne]
      exact M.ab x y h2
  ba x y h hp := by
    rcases upd_some h with ⟨rfl, rfl⟩ | ⟨h1, h2⟩
    · exact upd_eq
    · have := M.ba x y h2 fun e => h1 (Option.some.inj e).symm
      have hne : x ≠ s := fun e => hp (e ▸ this)
      rw [upd_ne hne]
      exact this
  pn x t1 h := by
    intro e
    rcases upd_some e with ⟨rfl, rfl⟩ | ⟨h1, h2⟩
    · exact M.pn _ _ rfl h
    · have e1 := M.ab _ _ h
      rw [M.ab _ _ h2] at e1
      exact h1 (Option.some.inj e1)
  g x y h := by
    rcases upd_some h with ⟨rfl, rfl⟩ | ⟨h1, h2⟩
    · exact hg
    · exact M.g x y h2
  lt x y h := by
    rcases upd_some h with ⟨rfl, rfl⟩ | ⟨h1, h2⟩
    · exact ⟨hs, ht⟩
    · exact M.lt x y h2
theorem Clo.flip {n : Nat} {G : Nat → List Nat} {A B : Nat → Option Nat} {Z T : Nat → Prop} {t s : Nat} (C : Clo G B Z T) (M : Mat n G A B (some t)) (hg : t ∈ G s) (hT : ¬ T t) : Clo G (upd B t s) Z T ∧ ∀ t1, A s = some t1 → ¬ T t1 := by
  refine ⟨⟨C.gz, fun t' h => ?_⟩, fun t1 h hT1 => ?_⟩
  · have hne : t' ≠ t := fun e => hT (e ▸ h)
    rw [upd_ne hne]
    exact C.tb t' h
  · obtain ⟨z, hz, hZ⟩ := C.tb t1 hT1
    rw [M.ab _ _ h] at hz
    cases hz
    exact hT (C.gz s t hZ hg)
/-- the way back from a free target -/
def Way (G : Nat → List Nat) (B : Nat → Option Nat) (start : Nat) (n : Nat) (C : Nat → Option Nat) (r : Nat → Nat) : Prop :=
  ∀ t s, C t = some s → s < n ∧ t < n ∧ t ∈ G s ∧ r s ≤ n ∧ (s = start ∨ ∃ t' s', C t' = some s' ∧ B t' = some s ∧ r s' < r s)
/-- while the way is walked -/
structure Fl2 (n : Nat) (G : Nat → List Nat) (A0 : Nat → Option Nat) (start : Nat) (C : Nat → Option Nat) (r : Nat → Nat) (Z T : Nat → Prop) (A B : Nat → Option Nat) (p : Option Nat) : Prop where
  mat : Mat n G A B p
  clo : Clo G B Z T
  out : ∀ t, p = some t → ¬ T t
  src : ∀ t, p = some t → ∃ s, C t = some s ∧ ∀ q, r q ≤ r s → A q = A0 q
  dom : ∀ x, A x ≠ none → x ≤ start
  mono : ∀ x, A0 x ≠ none → A x ≠ none
  fin : p = none → A start ≠ none
theorem Fl2.flip {n : Nat} {G : Nat → List Nat} {A0 B0 : Nat → Option Nat} {start : Nat} {C : Nat → Option Nat} {r : Nat → Nat} {Z T : Nat → Prop} {A B : Nat → Option Nat} {t s : Nat}
    (M0 : Mat n G A0 B0 none) (h0 : ∀ x, A0 x ≠ none → x < start) (W : Way G B0 start n C r) (F : Fl2 n G A0 start C r Z T A B (some t)) (hs : C t = some s) :
    Fl2 n G A0 start C r Z T (upd A s t) (upd B t s) (A s) ∧ ∀ t1, A s = some t1 → ∃ s1, C t1 = some s1 ∧ r s1 < r s := by
  obtain ⟨s', e, hA⟩ := F.src t rfl
  rw [hs] at e
  cases e
  obtain ⟨w1, w2, w3, w4, w5⟩ := W t s hs
  have hAs : A s = A0 s := hA s (Nat.le_refl _)
  have back : ∀ t1, A s = some t1 → ∃ s1, C t1 = some s1 ∧ r s1 < r s := fun t1 h => by
    rw [hAs] at h
    rcases w5 with rfl | ⟨t', s1, c1, c2, c3⟩
    · exact absurd (h0 s (by rw [h]; exact Option.some_ne_none _)) (Nat.lt_irrefl _)
    · have := M0.ba _ _ c2 (fun e => by cases e)
      rw [h] at this
      cases this
      exact ⟨s1, c1, c3⟩
  obtain ⟨k1, k2⟩ := F.clo.flip F.mat w3 (F.out t rfl)
  refine ⟨⟨F.mat.flip w3 w1 w2, k1, k2, fun t1 h => ?_, fun x h => ?_, fun x h => ?_, fun h => ?_⟩, back⟩
  · obtain ⟨s1, c1, c2⟩ := back t1 h
    refine ⟨s1, c1, fun q hq => ?_⟩
    have hne : q ≠ s := fun e => by subst e; omega
    rw [upd_ne hne]
    exact hA q (by omega)
  · by_cases e : x = s
    · subst e
      rcases w5 with rfl | ⟨t', s1, c1, c2, c3⟩
      · exact Nat.le_refl _
      · have := M0.ba _ _ c2 (fun e => by cases e)
        exact Nat.le_of_lt (h0 x (by rw [this]; exact Option.some_ne_none _))
    · rw [upd_ne e] at h
      exact F.dom x h
  · by_cases e : x = s
    · subst e; rw [upd_eq]; exact Option.some_ne_none _
    · rw [upd_ne e]; exact F.mono x h
  · rw [hAs] at h
    rcases w5 with rfl | ⟨t', s1, c1, c2, c3⟩
    · rw [upd_eq]; exact Option.some_ne_none _
    · rw [M0.ba _ _ c2 (fun e => by cases e)] at h; cases h
/-! the search for a free target -/
structure Bfs (n : Nat) (G : Nat → List Nat) (B : Nat → Option Nat) (start : Nat) (Q : List Nat) (C : Nat → Option Nat) : Prop where
  hd : start ∈ Q
  lt : ∀ q ∈ Q, q < n
  q : ∀ q ∈ Q, q = start ∨ ∃ t s, C t = some s ∧ B t = some q ∧ Q.idxOf s < Q.idxOf q
  c : ∀ t s, C t = some s → s ∈ Q ∧ t ∈ G s ∧ ∃ q ∈ Q, B t = some q
theorem Bfs.new {n : Nat} {G : Nat → List Nat} {B : Nat → Option Nat} {start : Nat} (h : start < n) : Bfs n G B start [start] (fun _ => none) where
  hd := List.mem_singleton.mpr rfl
  lt q hq := by rw [List.mem_singleton.mp hq]; exact h
  q q hq := .inl (List.mem_singleton.mp hq)
  c t s h := by cases h
theorem Bfs.step {n : Nat} {G : Nat → List Nat} {A B : Nat → Option Nat} {start : Nat} {Q : List Nat} {C : Nat → Option Nat} {s t q : Nat} (M : Mat n G A B none) (hst : A start = none)
    (F : Bfs n G B start Q C) (hs : s ∈ Q) (hg : t ∈ G s) (hC : C t = none) (hB : B t = some q) : Bfs n G B start (Q ++ [q]) (upd C t s) := by
  have hq : q ∉ Q := fun h => by
    rcases F.q q h with rfl | ⟨t', s', c1, c2, _⟩
    · have := M.ba _ _ hB (fun e => by cases e)
      rw [hst] at this; cases this
    · have h1 := M.ba _ _ hB (fun e => by cases e)
      have h2 := M.ba _ _ c2 (fun e => by cases e)
      rw [h1] at h2
      cases h2
      rw [hC] at c1; cases c1
  have ix : ∀ x ∈ Q, (Q ++ [q]).idxOf x = Q.idxOf x := fun x hx => by rw [List.idxOf_append, if_pos hx]
  have ixq : (Q ++ [q]).idxOf q = Q.length := by rw [List.idxOf_append, if_neg hq]; simp
  refine ⟨List.mem_append_left _ F.hd, fun x hx => ?_, fun x hx => ?_, fun t' s' h => ?_⟩
  · rcases List.mem_append.mp hx with hx | hx
    · exact F.lt x hx
    · rw [List.mem_singleton.mp hx]; exact (M.lt _ _ hB).1
  · rcases List.mem_append.mp hx with hx | hx
    · rcases F.q x hx with h | ⟨t', s', c1, c2, c3⟩
      · exact .inl h
      · refine .inr ⟨t', s', ?_, c2, ?_⟩
        · have hne : t' ≠ t := fun e => by subst e; rw [hC] at c1; cases c1
          rw [upd_ne hne]
          exact c1
        · rw [ix x hx, ix s' (F.c _ _ c1).1]; exact c3
    · rw [List.mem_singleton.mp hx]
      refine .inr ⟨t, s, upd_eq, hB, ?_⟩
      rw [ix s hs, ixq]
      exact List.idxOf_lt_length_of_mem hs
  · rcases upd_some h with ⟨rfl, rfl⟩ | ⟨_, h2⟩
    · exact ⟨List.mem_append_left _ hs, hg, q, List.mem_append_right _ (List.mem_singleton.mpr rfl), hB⟩
    · obtain ⟨a, b, x, c, d⟩ := F.c _ _ h2
      exact ⟨List.mem_append_left _ a, b, x, List.mem_append_left _ c, d⟩
/-- a free target is met -/
theorem Bfs.way {n : Nat} {G : Nat → List Nat} {B : Nat → Option Nat} {start : Nat} {Q : List Nat} {C : Nat → Option Nat} {s t : Nat} (hG : ∀ s, ∀ t ∈ G s, t < n) (F : Bfs n G B start Q C) (hz : Q.length ≤ n + 1) (hs : s ∈ Q) (hg : t ∈ G s) (hC : C t = none) :
    Way G B start n (upd C t s) (fun x => Q.idxOf x) := by
  intro t' s' h
  have hQ : s' ∈ Q ∧ t' ∈ G s' := by
    rcases upd_some h with ⟨rfl, rfl⟩ | ⟨_, h2⟩
    · exact ⟨hs, hg⟩
    · exact ⟨(F.c _ _ h2).1, (F.c _ _ h2).2.1⟩
  refine ⟨F.lt _ hQ.1, hG _ _ hQ.2, hQ.2, ?_, ?_⟩
  · have := List.idxOf_lt_length_of_mem hQ.1
    show Q.idxOf s' ≤ n
    omega
  · rcases F.q s' hQ.1 with h | ⟨t1, s1, c1, c2, c3⟩
    · exact .inl h
    · refine .inr ⟨t1, s1, ?_, c2, c3⟩
      have hne : t1 ≠ t := fun e => by subst e; rw [hC] at c1; cases c1
      rw [upd_ne hne]
      exact c1
/-- a start that fails -/
theorem Bfs.clo {n : Nat} {G : Nat → List Nat} {B : Nat → Option Nat} {start : Nat} {Q : List Nat} {C : Nat → Option Nat} {Z T : Nat → Prop} (K : Clo G B Z T) (F : Bfs n G B start Q C) (hd : ∀ q ∈ Q, ∀ t ∈ G q, C t ≠ none) :
    Clo G B (fun x => Z x ∨ x ∈ Q) (fun t => T t ∨ C t ≠ none) where
  gz z t h hg := by
    rcases h with h | h
    · exact .inl (K.gz z t h hg)
    · exact .inr (hd z h t hg)
  tb t h := by
    rcases h with h | h
    · obtain ⟨z, a, b⟩ := K.tb t h
      exact ⟨z, a, .inl b⟩
    · cases e : C t with
      | none => exact absurd e h
      | some s =>
        obtain ⟨_, _, q, c, d⟩ := F.c _ _ e
        exact ⟨q, d, .inr c⟩
/-- a matching that leaves no way to a free target -/
structure Full (n : Nat) (G : Nat → List Nat) (A B : Nat → Option Nat) : Prop where
  mat : Mat n G A B none
  clo : ∃ Z T, Clo G B Z T ∧ ∀ x, x < n → A x = none → Z x
/-! the searches apart -/
structure Apart (n : Nat) (G : Nat → List Nat) (A B : Nat → Option Nat) (R M : Nat → Bool) : Prop where
  free : ∀ x, x < n → A x = none → R x = true
  gm : ∀ r t, R r = true → t ∈ G r → M t = true
  mr : ∀ t, M t = true → ∃ r, R r = true ∧ t ∈ G r
  bm : ∀ t, M t = true → ∃ z, B t = some z ∧ R z = true
theorem Apart.count {n : Nat} {G : Nat → List Nat} {A B : Nat → Option Nat} {R M : Nat → Bool} (K : Mat n G A B none) (H : Apart n G A B R M) :
    ((List.range n).filter fun k => (B k).isNone).length ≤ ((List.range n).filter fun k => R k && !M k).length := by
  have hn : (List.range n).Nodup := List.nodup_range
  have s1 := filter_split (fun k => (A k).isSome) (List.range n)
  have s2 := filter_split (fun k => (B k).isSome) (List.range n)
  rw [List.length_range] at s1 s2
  have f1 : ((List.range n).filter fun k => !(B k).isSome) = (List.range n).filter fun k => (B k).isNone := List.filter_congr fun k _ => by cases B k <;> rfl
  have f2 : ((List.range n).filter fun k => !(A k).isSome) = (List.range n).filter fun k => (A k).isNone := List.filter_congr fun k _ => by cases A k <;> rfl
  rw [f1] at s2
  rw [f2] at s1
  have i1 : ((List.range n).filter fun k => (A k).isSome).length ≤ ((List.range n).filter fun k => (B k).isSome).length := by
    have := nodup_len (a := ((List.range n).filter fun k => (A k).isSome).map fun k => (A k).getD 0) (b := (List.range n).filter fun k => (B k).isSome) (nodup_map (hn.filter _) fun x hx y hy e => ?_) fun y hy => ?_
    · rwa [List.length_map] at this
    · obtain ⟨u, hu⟩ := Option.isSome_iff_exists.mp (List.mem_filter.mp hx).2
      obtain ⟨v, hv⟩ := Option.isSome_iff_exists.mp (List.mem_filter.mp hy).2
      rw [hu, hv] at e
      have e : u = v := e
      subst e
      have := K.ab _ _ hu
      rw [K.ab _ _ hv] at this
      exact (Option.some.inj this).symm
    · obtain ⟨x, hx, rfl⟩ := List.mem_map.mp hy
      obtain ⟨u, hu⟩ := Option.isSome_iff_exists.mp (List.mem_filter.mp hx).2
      have := K.ab _ _ hu
      rw [hu]
      exact List.mem_filter.mpr ⟨List.mem_range.mpr (K.lt _ _ this).2, by show (B u).isSome = true; rw [this]; rfl⟩
  have s3 := filter_split (fun k => R k && !M k) ((List.range n).filter R)
  rw [List.filter_filter, List.filter_filter] at s3
  have f3 : ((List.range n).filter fun k => (R k && !M k) && R k) = (List.range n).filter fun k => R k && !M k := List.filter_congr fun k _ => by cases R k <;> cases M k <;> rfl
  rw [f3] at s3
  have i2 : ((List.range n).filter fun k => !(R k && !M k) && R k).length ≤ ((List.range n).filter M).length := nodup_len (hn.filter _) fun x hx => by
    obtain ⟨h1, h2⟩ := List.mem_filter.mp hx
    exact List.mem_filter.mpr ⟨h1, by revert h2; cases R x <;> cases M x <;> decide⟩
  have i3 : (((List.range n).filter fun k => (A k).isNone) ++ ((List.range n).filter M).map fun t => (B t).getD 0).length ≤ ((List.range n).filter R).length := by
    refine nodup_len (List.nodup_append.mpr ⟨hn.filter _, nodup_map (hn.filter _) fun x hx y hy e => ?_, fun x hx y hy e => ?_⟩) fun x hx => ?_
    · obtain ⟨u, hu, _⟩ := H.bm _ (List.mem_filter.mp hx).2
      obtain ⟨v, hv, _⟩ := H.bm _ (List.mem_filter.mp hy).2
      rw [hu, hv] at e
      have e : u = v := e
      subst e
      have h1 := K.ba _ _ hu (fun e => by cases e)
      rw [K.ba _ _ hv (fun e => by cases e)] at h1
      exact (Option.some.inj h1).symm
    · obtain ⟨t, ht, rfl⟩ := List.mem_map.mp hy
      obtain ⟨u, hu, _⟩ := H.bm _ (List.mem_filter.mp ht).2
      rw [hu] at e
      have e : x = u := e
      subst e
      have h1 := K.ba _ _ hu (fun e => by cases e)
      have := (List.mem_filter.mp hx).2
      rw [h1] at this
      cases this
    · rcases List.mem_append.mp hx with hx | hx
      · obtain ⟨h1, h2⟩ := List.mem_filter.mp hx
        exact List.mem_filter.mpr ⟨h1, H.free x (List.mem_range.mp h1) (Option.isNone_iff_eq_none.mp h2)⟩
      · obtain ⟨t, ht, rfl⟩ := List.mem_map.mp hx
        obtain ⟨u, hu, hR⟩ := H.bm _ (List.mem_filter.mp ht).2
        rw [hu]
        exact List.mem_filter.mpr ⟨List.mem_range.mpr (K.lt _ _ hu).1, hR⟩
  rw [List.length_append, List.length_map] at i3
  omega
/-! chains -/
def Gr (S : List (List Int)) (i : Nat) : List Nat := (List.range S.length).filter fun k => decide (k ≠ i) && has (S.getD k []) (S.getD i [])
theorem Gr_lt {S : List (List Int)} {i k : Nat} (h : k ∈ Gr S i) : k < S.length := List.mem_range.mp (List.mem_filter.mp h).1
theorem Gr_iff {S : List (List Int)} {i k : Nat} : k ∈ Gr S i ↔ k < S.length ∧ k ≠ i ∧ has (S.getD k []) (S.getD i []) = true := by
  unfold Gr
  rw [List.mem_filter, List.mem_range, Bool.and_eq_true, decide_eq_true_iff]
inductive Rch (A : Nat → Option Nat) : Nat → Nat → Prop
  | refl {x : Nat} : Rch A x x
  | step {x y z : Nat} : Rch A x y → A y = some z → Rch A x z
theorem Rch.head {A : Nat → Option Nat} {x y z : Nat} (h : A x = some y) (r : Rch A y z) : Rch A x z := by
  induction r with
  | refl => exact .step .refl h
  | step _ h2 ih => exact .step ih h2
theorem Rch.cases' {A : Nat → Option Nat} {x z : Nat} (r : Rch A x z) : z = x ∨ ∃ y, A x = some y ∧ Rch A y z := by
  induction r with
  | refl => exact .inl rfl
  | step r h2 ih =>
    rcases ih with rfl | ⟨y, a, b⟩
    · exact .inr ⟨_, h2, .refl⟩
    · exact .inr ⟨y, a, .step b h2⟩
/-- the searches handed over -/
structure Srs (S : List (List Int)) : Prop where
  ok : ∀ s ∈ S, Srch s
  nd : S.Nodup
  ln : S.length ≤ 64
theorem getD_mem {S : List (List Int)} {i : Nat} (h : i < S.length) : S.getD i [] ∈ S := by
  rw [List.getD_eq_getElem?_getD, List.getElem?_eq_getElem h]
  exact List.getElem_mem h
theorem Srs.grow {S : List (List Int)} (H : Srs S) {i k : Nat} (hi : i < S.length) (h : k ∈ Gr S i) : (S.getD i []).length < (S.getD k []).length := by
  obtain ⟨h1, h2, h3⟩ := Gr_iff.mp h
  have a := H.ok _ (getD_mem hi)
  have b := H.ok _ (getD_mem h1)
  have hs := has_iff.mp h3
  have hl := nodup_len a.nodup hs
  have hne : (S.getD i []).length ≠ (S.getD k []).length := fun e => by
    have e := asc_ext a.1 b.1 fun c => ⟨hs c, fun hc => nodup_back a.nodup hs (by omega) hc⟩
    rw [List.getD_eq_getElem?_getD, List.getElem?_eq_getElem hi, List.getD_eq_getElem?_getD, List.getElem?_eq_getElem h1] at e
    have e : S[i] = S[k] := e
    by_cases q : i < k
    · exact (List.pairwise_iff_getElem.mp H.nd) i k hi h1 q e
    · exact (List.pairwise_iff_getElem.mp H.nd) k i h1 hi (by omega) e.symm
  omega
/-- each search is on the chain of one that has none before it -/
theorem Srs.root {S : List (List Int)} (H : Srs S) {A B : Nat → Option Nat} (M : Mat S.length (Gr S) A B none) : ∀ (m x : Nat), x < S.length → (S.getD x []).length ≤ m → ∃ k, k < S.length ∧ B k = none ∧ Rch A k x := by
  intro m
  induction m with
  | zero =>
    intro x hx hm
    cases e : B x with
    | none => exact ⟨x, hx, e, .refl⟩
    | some w =>
      have h1 := M.ba _ _ e (fun e => by cases e)
      have := H.grow (M.lt _ _ e).1 (M.g _ _ h1)
      omega
  | succ m ih =>
    intro x hx hm
    cases e : B x with
    | none => exact ⟨x, hx, e, .refl⟩
    | some w =>
      have h1 := M.ba _ _ e (fun e => by cases e)
      have := H.grow (M.lt _ _ e).1 (M.g _ _ h1)
      obtain ⟨k, a, b, c⟩ := ih w (M.lt _ _ e).1 (by omega)
      exact ⟨k, a, b, .step c h1⟩
/-- an order along a chain -/
structure Along (S : List (List Int)) (A : Nat → Option Nat) (k : Nat) (o : List Int) : Prop where
  nd : o.Nodup
  ok : ∀ c ∈ o, 0 ≤ c ∧ c ≤ 5
  sv : ∀ x, Rch A k x → servB o (S.getD x []) = true
def apartL (S : List (List Int)) (R M : Nat → Bool) : List (List Int) := ((List.range S.length).filter fun k => R k && !M k).map fun k => S.getD k []
theorem least_judge {S : List (List Int)} (H : Srs S) {A B : Nat → Option Nat} {R M : Nat → Bool} {o : Nat → List Int} (K : Mat S.length (Gr S) A B none) (HA : Apart S.length (Gr S) A B R M)
    (ho : ∀ k, k < S.length → B k = none → Along S A k (o k)) : judge S (((List.range S.length).filter fun k => (B k).isNone).map o) (apartL S R M) = true := by
  have hs : ∀ s ∈ S, ∃ x ∈ ((List.range S.length).filter fun k => (B k).isNone).map o, servB x s = true := fun s hs => by
    obtain ⟨x, hx, rfl⟩ := List.mem_iff_getElem.mp hs
    obtain ⟨k, h1, h2, h3⟩ := H.root K _ x hx (Nat.le_refl _)
    refine ⟨o k, List.mem_map.mpr ⟨k, List.mem_filter.mpr ⟨List.mem_range.mpr h1, by rw [h2]; rfl⟩, rfl⟩, ?_⟩
    have := (ho k h1 h2).sv x h3
    rwa [List.getD_eq_getElem?_getD, List.getElem?_eq_getElem hx] at this
  have ha : apB S (apartL S R M) = true := by
    refine apB_iff.mpr ⟨fun p hp => ?_, fun i j hi hj hij => ?_⟩
    · obtain ⟨k, hk, rfl⟩ := List.mem_map.mp hp
      exact getD_mem (List.mem_range.mp (List.mem_filter.mp hk).1)
    · unfold apartL at hi hj ⊢
      rw [List.length_map] at hi hj
      rw [List.getElem_map, List.getElem_map]
      obtain ⟨a1, a2⟩ := List.mem_filter.mp (List.getElem_mem hi)
      obtain ⟨b1, b2⟩ := List.mem_filter.mp (List.getElem_mem hj)
      have hne : ((List.range S.length).filter fun k => R k && !M k)[i] ≠ ((List.range S.length).filter fun k => R k && !M k)[j] := by
        have nd : ((List.range S.length).filter fun k => R k && !M k).Nodup := List.nodup_range.filter _
        by_cases q : i < j
        · exact (List.pairwise_iff_getElem.mp nd) i j hi hj q
        · exact fun e => (List.pairwise_iff_getElem.mp nd) j i hj hi (by omega) e.symm
      generalize ((List.range S.length).filter fun k => R k && !M k)[i] = u at *
      generalize ((List.range S.length).filter fun k => R k && !M k)[j] = v at *
      rw [Bool.and_eq_true, Bool.not_eq_true'] at a2 b2
      cases e : has (S.getD u []) (S.getD v []) with
      | false => rfl
      | true =>
        have := HA.gm v u b2.1 (Gr_iff.mpr ⟨List.mem_range.mp a1, hne, e⟩)
        rw [a2.2] at this; cases this
  refine judge_iff.mpr ⟨fun x hx => ?_, hs, ha, ?_⟩
  · obtain ⟨k, hk, rfl⟩ := List.mem_map.mp hx
    obtain ⟨h1, h2⟩ := List.mem_filter.mp hk
    have := ho k (List.mem_range.mp h1) (Option.isNone_iff_eq_none.mp h2)
    exact ordB_of this.nd this.ok
  · have h1 := weak (fun s q => (H.ok s q).nodup) hs ha
    have h2 := HA.count K
    rw [List.length_map] at h1 ⊢
    unfold apartL at h1 ⊢
    rw [List.length_map] at h1 ⊢
    omega
end DL

namespace DL
open PySem L2
local macro_rules | `(tactic| walk_at "go") => `(tactic| repeat (first | refine wp_mb ?_ | with_reducible refine wp_mul (by first | assumption | (exact okMul_iff.mpr (by omega))) ?_ | with_reducible refine wp_mod (by first | assumption | (exact okMod_iff.mpr (by omega))) ?_ | with_reducible refine wp_div (by first | assumption | (exact okDiv_iff.mpr (by omega))) ?_ | with_reducible refine wp_pow (by first | assumption | (exact okPow_iff.mpr (by decide))) ?_ | ((with_reducible refine wp_set ?_ ?_ ?_); (focus rfl); (focus first | exact tT_lb | exact lb_int _ _ | exact lb_bl _ _ | exact lb_non _ | assumption)) | refine wp_eq rfl ?_))
/-! W0 of k11: pieces of text that no law owns -/
theorem settle_new {st : Sto} {xs : List PV} (h : lbs st.nxt xs = true) : settle st.nxt (.loc st.nxt) (st.alloc (.lst xs)) = some (.lst xs, st) := by
  have hc : (Cell.lst xs).lb st.nxt = true := h
  unfold settle
  rw [PV.res_loc (Nat.le_refl _) (Sto.alloc_get hc) hc, Sto.restr_alloc (Nat.le_refl _), Sto.restr_self]
  rfl
theorem wp_settle {b : Nat} {v v' : PV} {s s' : Sto} {X : Option (PV × Sto)} {Q : PV → Sto → Prop} (h : settle b v s = some (v', s')) (q : Q v' s') : wp (if false = true then X else settle b v s) Q := by
  rw [if_neg (by decide), h]
  exact wp_ret q
theorem wp_sIf {t : DT} {a b : DS} {env : Env} {st s1 : Sto} {x : Bool} {Q : Fl → Sto → Prop} (ht : t env st = some (x, s1)) (h : wp (if x then a env s1 else b env s1) Q) : wp (sIf t a b env st) Q := by
  unfold sIf
  rw [ht, mb_some]
  exact h
/-- nothing below changed -/
def Ab (st s : Sto) : Prop := st.nxt ≤ s.nxt ∧ s.restr st.nxt = st
theorem Ab.refl {st : Sto} : Ab st st := ⟨Nat.le_refl _, Sto.restr_self _⟩
theorem Ab.alloc {st s : Sto} {c : Cell} (h : Ab st s) : Ab st (s.alloc c) := ⟨by rw [Sto.alloc_nxt]; exact Nat.le_succ_of_le h.1, by rw [Sto.restr_alloc h.1]; exact h.2⟩
theorem Ab.set {st s : Sto} {l : Nat} {c : Cell} (h : Ab st s) (hl : st.nxt ≤ l) : Ab st (s.set l c) := ⟨h.1, by rw [Sto.restr_set_ge hl]; exact h.2⟩
theorem Ab.kill {st s : Sto} {l : Nat} (h : Ab st s) (hl : st.nxt ≤ l) : Ab st (s.kill l) := ⟨h.1, by rw [Sto.restr_kill_ge hl]; exact h.2⟩
theorem Ab.get {st s : Sto} {l : Nat} {c : Cell} (h : Ab st s) (hc : st.cs l = some c) : s.cs l = some c := by
  have e := h.2
  have : (s.restr st.nxt).cs l = some c := by rw [e]; exact hc
  exact (Sto.restr_get this).1
/-- what has items is no dict -/
theorem seq_nod {v : PV} {st : Sto} {xs : List PV} (h : seqOf st v = some xs) : dkiOf st v = none ∧ dctOf st v = none := by
  cases v with
  | loc l =>
    have h : (match st.cs l with | some (.lst xs) => some xs | _ => none) = some xs := h
    constructor
    · show (match st.cs l with | some (.dki ks vs) => some (ks, vs) | _ => none) = none
      split at h
      · rename_i hl; rw [hl]
      · cases h
    · show (match st.cs l with | some (.dct ks vs) => some (ks, vs) | _ => none) = none
      split at h
      · rename_i hl; rw [hl]
      · cases h
  | dct _ _ => cases h
  | dki _ _ => cases h
  | _ => exact ⟨rfl, rfl⟩
theorem any_ints (c : Int) : ∀ s : List Int, (s.map PV.int).any (fun z => eqP z (.int c)) = s.contains c
  | [] => rfl
  | x :: s => by
    rw [List.map_cons, List.any_cons, any_ints c s, List.contains_cons]
    show (x == c || s.contains c) = _
    congr 1
    exact Bool.beq_comm
theorem flat_ints : ∀ s : List Int, (s.map PV.int).all flatP = true
  | [] => rfl
  | x :: s => by rw [List.map_cons, List.all_cons, flat_ints s]; rfl
theorem cmpIn_ints {neg : Bool} {c : Int} {y : PV} {s : List Int} {st : Sto} (h : seqOf st y = some (s.map .int)) : cmpIn neg (.int c) y st = some (.bl (s.contains c != neg), st) := by
  obtain ⟨h1, h2⟩ := seq_nod h
  unfold cmpIn
  rw [h1, h2]
  dsimp only
  unfold cmpInS
  rw [h]
  show (if (flatP (.int c) && (s.map PV.int).all flatP) = true then some (PV.bl ((s.map PV.int).any (fun z => eqP z (.int c)) != neg), st) else _) = _
  rw [if_pos (by rw [flat_ints]; rfl), any_ints]
theorem cmpIn_tT {neg : Bool} {c : Int} {s : List Int} {st : Sto} : cmpIn neg (.int c) (tT s) st = some (.bl (s.contains c != neg), st) := cmpIn_ints rfl
/-- booleans in a list -/
theorem any_bls (c : Bool) : ∀ s : List Bool, (s.map PV.bl).any (fun z => eqP z (.bl c)) = s.contains c
  | [] => rfl
  | x :: s => by
    rw [List.map_cons, List.any_cons, any_bls c s, List.contains_cons]
    show (x == c || s.contains c) = _
    congr 1
    exact Bool.beq_comm
theorem flat_bls : ∀ s : List Bool, (s.map PV.bl).all flatP = true
  | [] => rfl
  | x :: s => by rw [List.map_cons, List.all_cons, flat_bls s]; rfl
theorem cmpIn_bls {neg : Bool} {c : Bool} {y : PV} {s : List Bool} {st : Sto} (h : seqOf st y = some (s.map .bl)) : cmpIn neg (.bl c) y st = some (.bl (s.contains c != neg), st) := by
  obtain ⟨h1, h2⟩ := seq_nod h
  unfold cmpIn
  rw [h1, h2]
  dsimp only
  unfold cmpInS
  rw [h]
  show (if (flatP (.bl c) && (s.map PV.bl).all flatP) = true then some (PV.bl ((s.map PV.bl).any (fun z => eqP z (.bl c)) != neg), st) else _) = _
  rw [if_pos (by rw [flat_bls]; rfl), any_bls]
theorem numbG : ∀ (xs : List PV) (b k : Nat), (numb b xs)[k]? = (xs[k]?).map fun y => PV.tup [.int ((b + k : Nat) : Int), y]
  | [], b, k => by cases k <;> rfl
  | x :: xs, b, 0 => rfl
  | x :: xs, b, k + 1 => by
    show (numb (b + 1) xs)[k]? = (xs[k]?).map _
    rw [numbG xs (b + 1) k, show b + 1 + k = b + (k + 1) by omega]
theorem numbL : ∀ (xs : List PV) (b : Nat), (numb b xs).length = xs.length
  | [], _ => rfl
  | x :: xs, b => by show (numb (b + 1) xs).length + 1 = _; rw [numbL xs]; rfl
theorem numb_at {xs : List PV} {k : Nat} {x : PV} (h : (numb 0 xs)[k]? = some x) : ∃ y, xs[k]? = some y ∧ x = .tup [.int (k : Int), y] := by
  rw [numbG, Nat.zero_add] at h
  cases e : xs[k]? with
  | none => rw [e] at h; cases h
  | some y => rw [e] at h; cases h; exact ⟨y, rfl, rfl⟩
theorem rng_at {n k : Nat} {x : PV} (h : (rng 0 (n : Int))[k]? = some x) : k < n ∧ x = .int (k : Int) := by
  obtain ⟨a, b⟩ := rng_get h
  rw [Int.zero_add] at b
  exact ⟨a, b⟩
/-- a comprehension told by places -/
theorem lc_at {its : Its} {g : DG} {t : DT} {e : DE} {env : Env} {st : Sto} (ok : its.ok st) (q : Nat → Bool) (f : Nat → PV)
    (h : ∀ k x, its.items[k]? = some x → wp (g x env st) fun e1 s1 => s1 = st ∧ wp (t e1 st) fun b s2 => s2 = st ∧ b = q k ∧ (q k = true → wp (e e1 st) fun v s3 => s3 = st ∧ v = f k)) :
    lcGo its g t e env its.items st = some (((List.range its.items.length).filter q).map f, st) := by
  obtain ⟨ys, s, h1, h2, h3⟩ := lcGo_wp (its := its) (g := g) (t := t) (e := e) (env := env) (fun k done s => s = st ∧ done = ((List.range k).filter q).map f) (fun ys s => s = st ∧ ys = ((List.range its.items.length).filter q).map f) (fun k x done s hx hI => by
    obtain ⟨rfl, rfl⟩ := hI
    refine ⟨ok, wp_mono (h k x hx) fun e1 s1 hh => ?_⟩
    obtain ⟨rfl, hh⟩ := hh
    refine wp_mono hh fun b s2 hh => ?_
    obtain ⟨rfl, rfl, hh⟩ := hh
    rw [List.range_succ, List.filter_append, List.map_append]
    cases e : q k with
    | false =>
      rw [if_neg (by decide)]
      refine ⟨rfl, ?_⟩
      rw [List.filter_cons, e, if_neg (by decide)]
      simp
    | true =>
      rw [if_pos rfl]
      refine wp_mono (hh e) fun v s3 hv => ?_
      obtain ⟨rfl, rfl⟩ := hv
      refine ⟨rfl, ?_⟩
      rw [List.filter_cons, e, if_pos rfl]
      rfl) (fun done s hI => by
    obtain ⟨rfl, rfl⟩ := hI
    exact ⟨ok, rfl, rfl⟩) (st := st) ⟨rfl, rfl⟩
  rw [h1, h2, h3]
theorem filter_all {α : Type} {l : List α} : l.filter (fun _ => true) = l := List.filter_eq_self.mpr fun _ _ => rfl
/-- a loop that ends the def at the first item that fails -/
theorem for_all_wp {its : Its} {g : DG} {d : DS} {env : Env} {st : Sto} {Q : Fl → Sto → Prop} (ok : its.ok st) (b : Bool) (P : Env → Prop) (q : Nat → Bool)
    (h : ∀ k x env, its.items[k]? = some x → P env → wp (g x env st) fun e1 s1 => wp (d e1 s1) fun f s2 => s2 = st ∧ (if q k = true then (∃ e, f = .nx e ∧ P e) else f = .rt (.bl b)))
    (h0 : P env) (hq : (List.range its.items.length).all q = true → ∀ e, P e → Q (.nx e) st) (hf : (List.range its.items.length).all q = false → Q (.rt (.bl b)) st) : wp (forGo its g d its.items env st) Q := by
  refine forGo_wp (its := its) (fun k e s => s = st ∧ P e ∧ ∀ j, j < k → q j = true) _ (fun k x e s hx hI => ?_) (fun e s hI => ?_) ⟨rfl, h0, fun j hj => absurd hj (Nat.not_lt_zero _)⟩
  · obtain ⟨rfl, hP, hj⟩ := hI
    refine ⟨ok, wp_mono (h k x e hx hP) fun e1 s1 h1 => wp_mono h1 fun f s2 h2 => ?_⟩
    obtain ⟨rfl, hh⟩ := h2
    cases hk : q k with
    | true =>
      rw [if_pos hk] at hh
      obtain ⟨e', rfl, hP'⟩ := hh
      refine ⟨rfl, hP', fun j hjk => ?_⟩
      by_cases e : j = k
      · subst e; exact hk
      · exact hj j (by omega)
    | false =>
      rw [if_neg (by rw [hk]; decide)] at hh
      subst hh
      refine hf ?_
      rw [List.all_eq_false]
      refine ⟨k, List.mem_range.mpr ?_, by rw [hk]; decide⟩
      exact (List.getElem?_eq_some_iff.mp hx).1
  · obtain ⟨rfl, hP, hj⟩ := hI
    exact ⟨ok, hq (List.all_eq_true.mpr fun j hj' => hj j (List.mem_range.mp hj')) e hP⟩
theorem all_range {α : Type} (l : List α) (d : α) (p : α → Bool) : ((List.range l.length).all fun k => p (l.getD k d)) = l.all p := by
  rw [Bool.eq_iff_iff, List.all_eq_true, List.all_eq_true]
  constructor
  · intro h x hx
    obtain ⟨k, hk, rfl⟩ := List.mem_iff_getElem.mp hx
    have := h k (List.mem_range.mpr hk)
    rwa [List.getD_eq_getElem?_getD, List.getElem?_eq_getElem hk] at this
  · intro h k hk
    have hk := List.mem_range.mp hk
    rw [List.getD_eq_getElem?_getD, List.getElem?_eq_getElem hk]
    exact h _ (List.getElem_mem hk)
theorem getD_some {α : Type} {l : List α} {k : Nat} {d x : α} (h : l[k]? = some x) : l.getD k d = x := by rw [List.getD_eq_getElem?_getD, h]; rfl
/-! dicts whose keys are the ints below n -/
theorem ilook_zip1 {i : Int} {v : PV} : ∀ {ks : List Int} {vs : List PV}, ks.length = vs.length → i ∈ ks → ilook ks (List.zipWith (fun a b => if a = i then v else b) ks vs) i = some v
  | [], _, _, h => by cases h
  | x :: ks, [], h, _ => by cases h
  | x :: ks, y :: vs, h, hi => by
    rw [List.zipWith_cons_cons, ilook]
    by_cases e : x = i
    · rw [if_pos e, if_pos e]
    · rw [if_neg e]
      exact ilook_zip1 (by simpa using h) ((List.mem_cons.mp hi).resolve_left fun z => e z.symm)
theorem ilook_zip2 {i k : Int} {v : PV} (hk : k ≠ i) : ∀ {ks : List Int} {vs : List PV}, ks.length = vs.length → ilook ks (List.zipWith (fun a b => if a = i then v else b) ks vs) k = ilook ks vs k
  | [], [], _ => rfl
  | [], _ :: _, h => by cases h
  | x :: ks, [], h => by cases h
  | x :: ks, y :: vs, h => by
    rw [List.zipWith_cons_cons, ilook, ilook]
    by_cases e : x = k
    · rw [if_pos e, if_pos e, if_neg (by rw [e]; exact hk)]
    · rw [if_neg e, if_neg e]
      exact ilook_zip2 hk (by simpa using h)
theorem ilook_app {i k : Int} {v : PV} : ∀ {ks : List Int} {vs : List PV}, ks.length = vs.length → i ∉ ks → ilook (ks ++ [i]) (vs ++ [v]) k = if k = i then some v else ilook ks vs k
  | [], [], _, _ => by
    show (if i = k then some v else none) = _
    by_cases e : k = i
    · rw [if_pos e, if_pos e.symm]
    · rw [if_neg e, if_neg fun z => e z.symm]; rfl
  | [], _ :: _, h, _ => by cases h
  | x :: ks, [], h, _ => by cases h
  | x :: ks, y :: vs, h, hi => by
    rw [List.cons_append, List.cons_append, ilook, ilook]
    by_cases e : x = k
    · rw [if_pos e, if_pos e, if_neg (by intro z; exact hi (List.mem_cons.mpr (.inl (z.symm.trans e.symm))))]
    · rw [if_neg e, if_neg e]
      exact ilook_app (by simpa using h) fun z => hi (List.mem_cons_of_mem _ z)
theorem ilook_none {k : Int} : ∀ {ks : List Int} {vs : List PV}, k ∉ ks → ilook ks vs k = none
  | [], [], _ => rfl
  | [], _ :: _, _ => rfl
  | x :: ks, [], _ => rfl
  | x :: ks, y :: vs, h => by
    rw [ilook, if_neg fun e => h (List.mem_cons.mpr (.inl e.symm))]
    exact ilook_none fun z => h (List.mem_cons_of_mem _ z)
structure Dk (n : Nat) (ks : List Int) (vs : List PV) (f : Nat → Option PV) : Prop where
  nd : ks.Nodup
  lt : ∀ k ∈ ks, 0 ≤ k ∧ k < (n : Int)
  eq : ks.length = vs.length
  at' : ∀ k : Nat, ilook ks vs (k : Int) = f k
  lb : lbs 0 vs = true
theorem Dk.nil {n : Nat} : Dk n [] [] (fun _ => none) := ⟨List.nodup_nil, fun k h => (by cases h), rfl, fun _ => rfl, lbs_nil 0⟩
theorem Dk.len {n : Nat} {ks : List Int} {vs : List PV} {f : Nat → Option PV} (h : Dk n ks vs f) : ks.length ≤ n := by
  have := nodup_len (b := (List.range n).map fun (k : Nat) => (k : Int)) h.nd fun k hk => by
    obtain ⟨a, b⟩ := h.lt k hk
    exact List.mem_map.mpr ⟨k.toNat, List.mem_range.mpr (by omega), by omega⟩
  rwa [List.length_map, List.length_range] at this
theorem Dk.mem {n : Nat} {ks : List Int} {vs : List PV} {f : Nat → Option PV} (h : Dk n ks vs f) {k : Nat} : (k : Int) ∈ ks → f k ≠ none := by
  intro hk
  rw [← h.at']
  have : ∀ {ks : List Int} {vs : List PV}, ks.length = vs.length → (k : Int) ∈ ks → ilook ks vs k ≠ none := by
    intro ks
    induction ks with
    | nil => intro vs _ h; cases h
    | cons x ks ih =>
      intro vs hl hm
      cases vs with
      | nil => cases hl
      | cons y vs =>
        rw [ilook]
        by_cases e : x = k
        · rw [if_pos e]; exact Option.some_ne_none _
        · rw [if_neg e]
          exact ih (by simpa using hl) ((List.mem_cons.mp hm).resolve_left fun z => e z.symm)
  exact this h.eq hk
theorem zip_lb {i : Int} {v : PV} (hv : v.lb 0 = true) : ∀ {ks : List Int} {vs : List PV}, lbs 0 vs = true → lbs 0 (List.zipWith (fun a b => if a = i then v else b) ks vs) = true
  | [], [], _ => lbs_nil 0
  | [], _ :: _, _ => lbs_nil 0
  | _ :: _, [], _ => lbs_nil 0
  | x :: ks, y :: vs, h => by
    rw [lbs_cons, Bool.and_eq_true] at h
    rw [List.zipWith_cons_cons, lbs_cons, zip_lb hv h.2, Bool.and_true]
    split
    · exact hv
    · exact h.1
theorem Dk.put {n : Nat} {ks : List Int} {vs : List PV} {f : Nat → Option PV} (h : Dk n ks vs f) {k : Nat} (hk : k < n) {v : PV} (hv : v.lb 0 = true) : Dk n (iput ks vs k v).1 (iput ks vs k v).2 (upd f k v) ∧ (f k = none → (iput ks vs k v).1.length = ks.length + 1) := by
  unfold iput
  by_cases hm : (k : Int) ∈ ks
  · rw [if_pos hm]
    refine ⟨⟨h.nd, h.lt, (by rw [List.length_zipWith, h.eq, Nat.min_self]), fun j => ?_, zip_lb hv h.lb⟩, fun e => absurd e (h.mem hm)⟩
    by_cases e : j = k
    · subst e
      rw [upd_eq]
      exact ilook_zip1 h.eq hm
    · rw [upd_ne e, ← h.at']
      exact ilook_zip2 (by omega) h.eq
  · rw [if_neg hm]
    refine ⟨⟨List.nodup_append.mpr ⟨h.nd, List.nodup_cons.mpr ⟨by simp, List.nodup_nil⟩, fun a ha b hb e => ?_⟩, fun a ha => ?_, (by rw [List.length_append, List.length_append, h.eq]; rfl), fun j => ?_, ?_⟩, fun _ => by rw [List.length_append]; rfl⟩
    · rw [List.mem_singleton] at hb
      subst hb
      exact hm (e ▸ ha)
    · rcases List.mem_append.mp ha with ha | ha
      · exact h.lt a ha
      · rw [List.mem_singleton] at ha
        omega
    · show ilook (ks ++ [(k : Int)]) (vs ++ [v]) (j : Int) = _
      rw [ilook_app h.eq hm]
      by_cases e : j = k
      · subst e; rw [if_pos rfl, upd_eq]
      · rw [if_neg (by omega), upd_ne e]; exact h.at' j
    · show lbs 0 (vs ++ [v]) = true
      rw [lbs_append, h.lb, lbs_cons, hv, lbs_nil]; rfl
abbrev nI (k : Nat) : PV := .int (k : Int)
/-- a dict from ints to ints -/
abbrev Dn (n : Nat) (ks : List Int) (vs : List PV) (f : Nat → Option Nat) : Prop := Dk n ks vs (fun k => (f k).map nI)
theorem Dn.put {n : Nat} {ks : List Int} {vs : List PV} {f : Nat → Option Nat} (h : Dn n ks vs f) {k j : Nat} (hk : k < n) : Dn n (iput ks vs k (nI j)).1 (iput ks vs k (nI j)).2 (upd f k j) ∧ (f k = none → (iput ks vs k (nI j)).1.length = ks.length + 1) := by
  obtain ⟨a, b⟩ := Dk.put h hk (v := nI j) (lb_int _ _)
  have e : (fun x => (upd f k j x).map nI) = upd (fun x => (f x).map nI) k (nI j) := by
    funext x
    unfold upd
    split <;> rfl
  exact ⟨by show Dk n _ _ (fun x => (upd f k j x).map nI); rw [e]; exact a, fun h => b (by show (f k).map nI = none; rw [h]; rfl)⟩
theorem Dk.cell {n : Nat} {ks : List Int} {vs : List PV} {f : Nat → Option PV} (h : Dk n ks vs f) {m : Nat} : (Cell.dki ks vs).lb m = true := Cell.lb_mono (Nat.zero_le _) (show lbs 0 vs = true from h.lb)
end DL

namespace DL
open PySem L2
local macro_rules | `(tactic| walk_at "go") => `(tactic| repeat (first | refine wp_mb ?_ | with_reducible refine wp_mul (by first | assumption | (exact okMul_iff.mpr (by omega))) ?_ | with_reducible refine wp_mod (by first | assumption | (exact okMod_iff.mpr (by omega))) ?_ | with_reducible refine wp_div (by first | assumption | (exact okDiv_iff.mpr (by omega))) ?_ | with_reducible refine wp_pow (by first | assumption | (exact okPow_iff.mpr (by decide))) ?_ | ((with_reducible refine wp_set ?_ ?_ ?_); (focus rfl); (focus first | exact tT_lb | exact lb_int _ _ | exact lb_bl _ _ | exact lb_non _ | assumption)) | refine wp_eq rfl ?_))
/-! W1 of k11: the text's defs -/
theorem has_all_eq {s o : List Int} {st : Sto} : f_has_all [tT s, tT o] st = some (.bl (has s o), st) := by
  unfold f_has_all
  refine runF_eq rfl (lb_bl _ _) ?_
  show wp (D_has_all [some (tT s), some (tT o), none] st) _
  unfold D_has_all
  walk_at "go"
  have e : has s o = (List.range (o.map PV.int).length).all fun k => s.contains (o.getD k 0) := by
    rw [List.length_map, all_range o 0 fun c => s.contains c]
    rfl
  refine for_all_wp (its := ⟨o.map .int, none⟩) Its.ok_none false (fun env => ∃ u, env = [some (tT s), some (tT o), u]) (fun k => s.contains (o.getD k 0)) (fun k x env hx hI => ?_) ⟨none, rfl⟩ (fun h env hP => ?_) (fun h => ?_)
  · obtain ⟨u, rfl⟩ := hI
    obtain ⟨y, hy, _, rfl⟩ := get_map hx
    rw [getD_some hy]
    refine wp_eq rfl ?_
    walk_at "go"
    refine wp_eq cmpIn_tT ?_
    cases s.contains y with
    | true =>
      walk_at "go"
      exact ⟨rfl, _, rfl, _, rfl⟩
    | false =>
      walk_at "go"
      exact ⟨rfl, rfl⟩
  · obtain ⟨u, rfl⟩ := hP
    walk_at "go"
    rw [e]
    exact ⟨by rw [h], rfl⟩
  · exact wp_ret ⟨congrArg (fun b => Fl.rt (.bl b)) (e.trans h).symm, rfl⟩
theorem alloc_more {st : Sto} {xs : List PV} {y : PV} (h : lbs st.nxt xs = true) (hy : y.lb st.nxt = true) : (st.alloc (.lst xs)).set st.nxt (.lst (xs ++ [y])) = st.alloc (.lst (xs ++ [y])) :=
  Sto.alloc_set (show lbs st.nxt xs = true from h) (show lbs st.nxt (xs ++ [y]) = true by rw [lbs_append, h, lbs_cons, hy, lbs_nil]; rfl)
def rowsP (S : List (List Int)) : PV := .lst (S.map tT)
def grP (g : List (List Nat)) : PV := .lst (g.map fun r => .lst (r.map nI))
def graph (S : List (List Int)) : List (List Nat) := (List.range S.length).map fun i => Gr S i
theorem eqN (k i : Nat) : ((k : Int) == (i : Int)) = decide (k = i) := by
  by_cases h : k = i
  · subst h; simp
  · rw [decide_eq_false h]; simp only [beq_eq_false_iff_ne]; omega
theorem greater_wp {S : List (List Int)} {st : Sto} {Q : PV → Sto → Prop} (hz : S.length ≤ 1000) (q : Q (.loc st.nxt) (st.alloc (.lst ((graph S).map fun r => .lst (r.map nI))))) : wp (f_greater_searches [rowsP S] st) Q := by
  unfold f_greater_searches
  refine wp_runF rfl ?_
  show wp (D_greater_searches [some (rowsP S), none, none, none, none, none] st) _
  unfold D_greater_searches
  walk_at "go"
  have lbg : ∀ g : List (List Nat), lbs st.nxt (g.map fun r => PV.lst (r.map nI)) = true := fun g => lbs_map (fun r => by rw [lb_lst]; exact lbs_map (fun k => lb_int _ _) r) g
  refine forGo_wp (its := ⟨numb 0 (S.map tT), none⟩) (fun k env s => (∃ u2 u3 u4 u5, env = [some (rowsP S), some (.loc st.nxt), u2, u3, u4, u5]) ∧ s = st.alloc (.lst (((List.range k).map fun i => Gr S i).map fun r => .lst (r.map nI)))) _ (fun k x env s hx hI => ?_) (fun env s hI => ?_) ⟨⟨_, _, _, _, rfl⟩, rfl⟩
  · obtain ⟨⟨u2, u3, u4, u5, rfl⟩, rfl⟩ := hI
    obtain ⟨y, hy, rfl⟩ := numb_at hx
    obtain ⟨s, hs, _, rfl⟩ := get_map hy
    refine ⟨Its.ok_none, wp_eq rfl ?_⟩
    walk_at "go"
    refine wp_eq (loc_asL (Sto.alloc_get (lbg _))) ?_
    walk_at "go"
    refine wp_eq (lc_at (its := ⟨numb 0 (S.map tT), none⟩) Its.ok_none (fun j => decide (j ≠ k) && has (S.getD j []) (S.getD k [])) nI (fun j x hx => ?_)) ?_
    · obtain ⟨y, hy, rfl⟩ := numb_at hx
      obtain ⟨o, ho, _, rfl⟩ := get_map hy
      refine wp_eq rfl ⟨rfl, ?_⟩
      rw [getD_some hs, getD_some ho]
      walk_at "go"
      rw [eqv_int, eqN]
      by_cases e : j = k
      · subst e
        rw [decide_eq_true rfl]
        walk_at "go"
        exact ⟨rfl, by simp, fun h => by simp at h⟩
      · rw [decide_eq_false e]
        walk_at "go"
        refine wp_eq has_all_eq ?_
        walk_at "go"
        refine ⟨rfl, by simp [e], fun _ => wp_eq rfl ⟨rfl, rfl⟩⟩
    rw [numb_len, List.length_map]
    refine wp_eq (mkV_eq (okL (by rw [List.length_map]; exact Nat.le_trans (List.length_filter_le _ _) (by rw [List.length_range]; omega)))) ?_
    walk_at "go"
    have hk : k < S.length := by
      have := (List.getElem?_eq_some_iff.mp hs).1
      exact this
    refine wp_eq (loc_append (Sto.alloc_get (lbg _)) (by rw [List.length_map, List.length_map, List.length_range]; exact Nat.lt_of_lt_of_le (by omega) (okL (Nat.le_refl 1000000))) (by rw [lb_lst]; exact lbs_map (fun k => lb_int _ _) _)) ?_
    walk_at "go"
    refine ⟨⟨_, _, _, _, rfl⟩, ?_⟩
    rw [alloc_more (lbg _) (by rw [lb_lst]; exact lbs_map (fun k => lb_int _ _) _), List.range_succ, List.map_append, List.map_append]
    rfl
  · obtain ⟨⟨u2, u3, u4, u5, rfl⟩, rfl⟩ := hI
    refine ⟨Its.ok_none, ?_⟩
    rw [show (Its.mk (numb 0 (S.map tT)) none).items.length = S.length by show (numb 0 (S.map tT)).length = _; rw [numb_len, List.length_map]]
    walk_at "go"
    refine wp_eq (fin_loc (Nat.le_refl _) (Sto.alloc_get (lbg _)) (lbg _)) ?_
    rw [Sto.restr_alloc (Nat.le_refl _), Sto.restr_self]
    exact q
end DL

namespace DL
open PySem L2
local macro_rules | `(tactic| walk_at "go") => `(tactic| repeat (first | refine wp_mb ?_ | with_reducible refine wp_mul (by first | assumption | (exact okMul_iff.mpr (by omega))) ?_ | with_reducible refine wp_mod (by first | assumption | (exact okMod_iff.mpr (by omega))) ?_ | with_reducible refine wp_div (by first | assumption | (exact okDiv_iff.mpr (by omega))) ?_ | with_reducible refine wp_pow (by first | assumption | (exact okPow_iff.mpr (by decide))) ?_ | ((with_reducible refine wp_set ?_ ?_ ?_); (focus rfl); (focus first | exact tT_lb | exact lb_int _ _ | exact lb_bl _ _ | exact lb_non _ | assumption)) | refine wp_eq rfl ?_))
/-! S: statement by statement: what comes behind a statement stays out of sight while it is walked -/
def Cont (K B : DS) (Q : Fl → Sto → Prop) : Prop := ∀ e s, wp (B e s) Q → wp (K e s) Q
theorem wp_seqK {A B : DS} {env : Env} {st : Sto} {Q : Fl → Sto → Prop} (h : ∀ K : DS, Cont K B Q → wp (A env st) fun f s => wp (match f with | .nx e => K e s | f => some (f, s)) Q) : wp (sSeq A B env st) Q := by
  have := h B fun _ _ z => z
  obtain ⟨f, s, e, q⟩ := this
  show wp (mb (A env st) _) Q
  rw [e]
  exact q
theorem wp_nx {K B : DS} {e : Env} {s : Sto} {Q : Fl → Sto → Prop} (h : Cont K B Q) (q : wp (B e s) Q) : wp (K e s) Q := h e s q
local macro_rules | `(tactic| walk_at "st") => `(tactic| ((first | (refine wp_seqK ?_; intro K hK) | skip); walk_at "go"))
local macro_rules | `(tactic| walk_at "nx") => `(tactic| ((try dsimp only [List.set_cons_zero, List.set_cons_succ]); refine wp_nx (by assumption) ?_; walk_at "st"))
local macro_rules | `(tactic| walk_at "nk") => `(tactic| ((try dsimp only [List.set_cons_zero, List.set_cons_succ]); refine wp_nx (by assumption) ?_))
/-! W2 of k11: the search for a free target -/
theorem whGo_wp {t : DT} {d : DS} (I : Nat → Env → Sto → Prop) (Q : Fl → Sto → Prop)
    (hs : ∀ m env st, I m env st → wp (t env st) fun b s1 => if b then wp (d env s1) fun f s2 => match f with
      | .nx e => ∃ m', m' < m ∧ I m' e s2
      | .ct e => ∃ m', m' < m ∧ I m' e s2
      | .bk e => Q (.nx e) s2
      | .rt v => Q (.rt v) s2 else Q (.nx env) s1) : ∀ (n m : Nat) (env : Env) (st : Sto), m < n → I m env st → wp (whGo t d n env st) Q := by
  intro n
  induction n with
  | zero => intro m env st h; exact absurd h (Nat.not_lt_zero _)
  | succ n ih =>
    intro m env st h hI
    rw [whGo]
    refine wp_mb (wp_mono (hs m env st hI) fun b s1 h1 => ?_)
    cases b with
    | false =>
      rw [if_neg (by decide)] at h1 ⊢
      exact wp_ret h1
    | true =>
      rw [if_pos rfl] at h1 ⊢
      refine wp_mb (wp_mono h1 fun f s2 h2 => ?_)
      cases f with
      | nx e => obtain ⟨m', a, b⟩ := h2; exact ih m' e s2 (by omega) b
      | ct e => obtain ⟨m', a, b⟩ := h2; exact ih m' e s2 (by omega) b
      | bk e => exact wp_ret h2
      | rt v => exact wp_ret h2
theorem wp_while {t : DT} {d : DS} {env : Env} {st : Sto} {Q : Fl → Sto → Prop} (m : Nat) (hm : m < 100000) (I : Nat → Env → Sto → Prop)
    (hs : ∀ m env st, I m env st → wp (t env st) fun b s1 => if b then wp (d env s1) fun f s2 => match f with
      | .nx e => ∃ m', m' < m ∧ I m' e s2
      | .ct e => ∃ m', m' < m ∧ I m' e s2
      | .bk e => Q (.nx e) s2
      | .rt v => Q (.rt v) s2 else Q (.nx env) s1) (h0 : I m env st) : wp (sWhile t d env st) Q := by
  unfold sWhile
  exact whGo_wp I Q hs 100000 m env st hm h0
theorem wp_map {o : Option Sto} {s' : Sto} {env : Env} {Q : Env → Sto → Prop} (h : o = some s') (q : Q env s') : wp (o.map fun s => (env, s)) Q := by
  rw [h]
  exact wp_ret q
theorem nis_at {l : List Nat} {k j : Nat} (h : l[k]? = some j) : atI (l.map nI) (k : Int) = some (nI j) := atI_nat (by rw [List.getElem?_map, h]; rfl)
theorem gr_at {gs : List (List Nat)} {k : Nat} {r : List Nat} (h : gs[k]? = some r) {st : Sto} : opIx (grP gs) (.int (k : Int)) st = some (.lst (r.map nI), st) :=
  seq_ix (xs := gs.map fun r => .lst (r.map nI)) rfl (atI_nat (by rw [List.getElem?_map, h]; rfl))
theorem frz_eq {st : Sto} {p : Nat} {c : Cell} (h : st.cs p = some c) : frzL (.loc p) st = some (c.val, st.kill p) := by
  show (match st.cs p with | some c => some (c.val, st.kill p) | none => none) = _
  rw [h]
theorem dki_lb {n m : Nat} {ks : List Int} {vs : List PV} {f : Nat → Option PV} (h : Dk n ks vs f) : (PV.dki ks vs).lb m = true := by
  have := Cell.lb_val (n := m) (c := .dki ks vs)
  exact this.trans h.cell
structure Fs (n : Nat) (G : Nat → List Nat) (B : Nat → Option Nat) (start : Nat) (st s : Sto) (pc pq : Nat) (ks : List Int) (vs : List PV) (Qu : List Nat) (C : Nat → Option Nat) : Prop where
  ab : Ab st s
  c1 : s.cs pc = some (.dki ks vs)
  c2 : s.cs pq = some (.lst (Qu.map nI))
  dn : Dn n ks vs C
  bf : Bfs n G B start Qu C
  len : Qu.length = ks.length + 1
theorem nis_lb {m : Nat} (l : List Nat) : lbs m (l.map nI) = true := lbs_map (fun k => lb_int _ _) l
theorem free_wp {n : Nat} {G : Nat → List Nat} {A B : Nat → Option Nat} {gs : List (List Nat)} {start b : Nat} {ks : List Int} {vs : List PV} {st : Sto} {Q : PV → Sto → Prop} (hn : n ≤ 1000) (hgs : ∀ i, i < n → gs[i]? = some (G i))
    (hG : ∀ s, ∀ t ∈ G s, t < n) (M : Mat n G A B none) (hst : A start = none) (hs : start < n) (hb : st.cs b = some (.dki ks vs)) (hD : Dn n ks vs B)
    (q1 : ∀ t ks' vs' C r, Dn n ks' vs' C → Way G B start n C r → B t = none → C t ≠ none → Q (.tup [nI t, .dki ks' vs']) st)
    (q2 : ∀ ks' vs', lbs 0 vs' = true → (∀ Z T, Clo G B Z T → ∃ Z' T', Clo G B Z' T' ∧ (∀ x, Z x → Z' x) ∧ Z' start) → Q (.tup [.non, .dki ks' vs']) st) : wp (f_free_target [grP gs, .loc b, nI start] st) Q := by
  unfold f_free_target
  refine wp_runF rfl ?_
  show wp (D_free_target [some (grP gs), some (.loc b), some (nI start), none, none, none, none] st) _
  unfold D_free_target
  walk_at "st"
  walk_at "nx"
  walk_at "nx"
  walk_at "nk"
  have lb0 : (Cell.dki [] []).lb st.nxt = true := Dk.nil.cell (n := 0)
  have F0 : Fs n G B start st ((st.alloc (.dki [] [])).alloc (.lst [nI start])) st.nxt (st.nxt + 1) [] [] [start] (fun _ => none) := by
    refine ⟨Ab.refl.alloc.alloc, ?_, Sto.alloc_get (nis_lb [start]), Dk.nil, Bfs.new hs, rfl⟩
    rw [Sto.alloc_ne (by rw [Sto.alloc_nxt]; omega)]
    exact Sto.alloc_get lb0
  refine wp_seqK ?_
  intro K hK
  refine wp_while (n + 2) (by omega) (fun m env s => ∃ ks' vs' Qu C at' u, env = [some (grP gs), some (.loc b), some (nI start), some (.loc st.nxt), some (.loc (st.nxt + 1)), some (nI at'), u] ∧ Fs n G B start st s st.nxt (st.nxt + 1) ks' vs' Qu C ∧ at' + m = n + 2 ∧ at' ≤ Qu.length ∧ ∀ j q, j < at' → Qu[j]? = some q → ∀ t ∈ G q, C t ≠ none) (fun m env s hI => ?_) ⟨_, _, _, _, 0, _, rfl, F0, by omega, Nat.zero_le _, fun j _ h => absurd h (Nat.not_lt_zero _)⟩
  obtain ⟨ks', vs', Qu, C, at', u, rfl, F, ha, hl, hd⟩ := hI
  walk_at "go"
  refine wp_eq (loc_len F.c2) ?_
  walk_at "go"
  rw [List.length_map]
  by_cases hlt : at' < Qu.length
  · rw [if_pos (decide_eq_true (by omega))]
    obtain ⟨sv, hsv⟩ : ∃ sv, Qu[at']? = some sv := ⟨_, List.getElem?_eq_getElem hlt⟩
    have hsn : sv < n := F.bf.lt sv (List.mem_of_getElem? hsv)
    refine wp_seqK ?_
    intro K2 hK2
    walk_at "go"
    refine wp_eq (loc_ix F.c2 (nis_at hsv)) ?_
    walk_at "go"
    refine wp_eq (gr_at (hgs sv hsn)) ?_
    walk_at "go"
    refine forGo_wp (its := ⟨(G sv).map nI, none⟩) (fun k env s => ∃ ks' vs' Qu C u, env = [some (grP gs), some (.loc b), some (nI start), some (.loc st.nxt), some (.loc (st.nxt + 1)), some (nI at'), u] ∧ Fs n G B start st s st.nxt (st.nxt + 1) ks' vs' Qu C ∧ Qu[at']? = some sv ∧ (∀ j q, j < at' → Qu[j]? = some q → ∀ t ∈ G q, C t ≠ none) ∧ ∀ t ∈ (G sv).take k, C t ≠ none) _ (fun k x env s hx hI => ?_) (fun env s hI => ?_) ⟨_, _, _, _, _, rfl, F, hsv, hd, fun t h => by cases h⟩
    · clear F hd hl hlt hsv
      obtain ⟨ks', vs', Qu, C, u, rfl, F, hsv, hd, ht⟩ := hI
      obtain ⟨t, hgt, htm, rfl⟩ := get_map hx
      have htn := hG sv t htm
      have hlen := F.dn.len
      have hQl := F.len
      have htake : (G sv).take (k + 1) = (G sv).take k ++ [t] := by rw [List.take_add_one, hgt]; rfl
      refine ⟨Its.ok_none, wp_eq rfl ?_⟩
      walk_at "go"
      refine wp_eq (dki_in F.c1) ?_
      rw [F.dn.at' t]
      cases hC : C t with
      | some w =>
        walk_at "go"
        refine ⟨_, _, _, _, _, rfl, F, hsv, hd, fun t' h => ?_⟩
        rw [htake] at h
        rcases List.mem_append.mp h with h | h
        · exact ht t' h
        · rw [List.mem_singleton.mp h, hC]; exact Option.some_ne_none _
      | none =>
        rw [show ((Option.map nI (none : Option Nat)).isSome != true) = true from rfl]
        refine wp_eq rfl ?_
        rw [if_pos rfl]
        refine wp_seqK ?_
        intro K3 hK3
        walk_at "go"
        refine wp_eq (loc_ix F.c2 (nis_at hsv)) ?_
        walk_at "go"
        refine wp_map (dki_set F.c1 (lb_int _ _) (Nat.lt_of_le_of_lt hlen (Nat.lt_of_lt_of_le (by omega) (okL (Nat.le_refl 1000000))))) ?_
        obtain ⟨D1, D2⟩ := Dn.put F.dn htn (j := sv)
        have D2 := D2 hC
        walk_at "go"
        walk_at "nk"
        have cA : (s.set st.nxt (.dki (iput ks' vs' t (nI sv)).1 (iput ks' vs' t (nI sv)).2)).cs st.nxt = some (.dki (iput ks' vs' t (nI sv)).1 (iput ks' vs' t (nI sv)).2) := Sto.set_get F.c1 D1.cell
        have cB : (s.set st.nxt (.dki (iput ks' vs' t (nI sv)).1 (iput ks' vs' t (nI sv)).2)).cs (st.nxt + 1) = some (.lst (Qu.map nI)) := by rw [Sto.set_ne (by omega)]; exact F.c2
        have aA : Ab st (s.set st.nxt (.dki (iput ks' vs' t (nI sv)).1 (iput ks' vs' t (nI sv)).2)) := F.ab.set (Nat.le_refl _)
        generalize s.set st.nxt (.dki (iput ks' vs' t (nI sv)).1 (iput ks' vs' t (nI sv)).2) = sA at cA cB aA ⊢
        generalize (iput ks' vs' t (nI sv)).1 = ks2 at *
        generalize (iput ks' vs' t (nI sv)).2 = vs2 at *
        refine wp_seqK ?_
        intro K4 hK4
        walk_at "go"
        refine wp_eq (dki_in (aA.get hb)) ?_
        rw [hD.at' t]
        cases hB : B t with
        | none =>
          rw [show ((Option.map nI (none : Option Nat)).isSome != true) = true from rfl]
          refine wp_eq rfl ?_
          rw [if_pos rfl]
          walk_at "go"
          refine wp_eq (frz_eq cA) ?_
          walk_at "go"
          refine wp_eq (fin_val (by rw [lb_tup, lbs_cons, lb_int, lbs_cons, show (Cell.val (.dki ks2 vs2)) = PV.dki ks2 vs2 from rfl, dki_lb D1, lbs_nil]; rfl)) ?_
          rw [(aA.kill (Nat.le_refl _)).2]
          exact q1 t ks2 vs2 _ _ D1 (F.bf.way hG (by omega) (List.mem_of_getElem? hsv) htm hC) hB (by rw [upd_eq]; exact Option.some_ne_none _)
        | some w =>
          rw [show ((Option.map nI (some w)).isSome != true) = false from rfl]
          refine wp_eq rfl ?_
          rw [if_neg (by decide)]
          refine wp_eq rfl ?_
          walk_at "nk"
          walk_at "go"
          refine wp_eq (loc_asL cB) ?_
          walk_at "go"
          refine wp_eq (dki_ix (aA.get hb) (v := nI w) (by rw [hD.at' t, hB]; rfl)) ?_
          walk_at "go"
          refine wp_eq (loc_append cB (by rw [List.length_map]; exact Nat.lt_of_le_of_lt (show Qu.length ≤ 1001 by omega) (Nat.lt_of_lt_of_le (by omega) (okL (Nat.le_refl 1000000)))) (lb_int _ _)) ?_
          walk_at "go"
          have hl2 : at' < Qu.length := (List.getElem?_eq_some_iff.mp hsv).1
          refine ⟨ks2, vs2, Qu ++ [w], _, _, rfl, ⟨aA.set (Nat.le_succ _), by rw [Sto.set_ne (by omega)]; exact cA, ?_, D1, F.bf.step M hst (List.mem_of_getElem? hsv) htm hC hB, by rw [List.length_append, D2]; show Qu.length + 1 = _; omega⟩, by rw [List.getElem?_append_left hl2]; exact hsv, fun j q hj hq t' ht' => ?_, fun t' h => ?_⟩
          · rw [List.map_append]
            exact Sto.set_get cB (by show lbs _ (Qu.map nI ++ [nI w]) = true; rw [lbs_append, nis_lb, lbs_cons, lb_int, lbs_nil]; rfl)
          · rw [List.getElem?_append_left (by omega)] at hq
            have := hd j q hj hq t' ht'
            by_cases e : t' = t
            · subst e; exact absurd hC this
            · rw [upd_ne e]; exact this
          · rw [htake] at h
            by_cases e : t' = t
            · subst e; rw [upd_eq]; exact Option.some_ne_none _
            · rw [upd_ne e]
              rcases List.mem_append.mp h with h | h
              · exact ht t' h
              · exact absurd (List.mem_singleton.mp h) e
    · clear F hd hl hlt hsv
      obtain ⟨ks', vs', Qu, C, u, rfl, F, hsv, hd, ht⟩ := hI
      refine ⟨Its.ok_none, ?_⟩
      rw [show (Its.mk ((G sv).map nI) none).items.length = (G sv).length from List.length_map _, List.take_length] at ht
      walk_at "nk"
      walk_at "go"
      have hl2 : at' < Qu.length := (List.getElem?_eq_some_iff.mp hsv).1
      have hlen := F.dn.len
      have hQl := F.len
      refine ⟨m - 1, by omega, ks', vs', Qu, C, at' + 1, _, rfl, F, by omega, hl2, fun j q hj hq => ?_⟩
      by_cases e : j = at'
      · subst e
        rw [hsv] at hq
        cases hq
        exact ht
      · exact hd j q (by omega) hq
  · rw [if_neg (by rw [decide_eq_false (by omega)]; decide)]
    walk_at "nk"
    walk_at "go"
    refine wp_eq (frz_eq F.c1) ?_
    walk_at "go"
    refine wp_eq (fin_val (by rw [lb_tup, lbs_cons, lb_non, lbs_cons, show (Cell.val (.dki ks' vs')) = PV.dki ks' vs' from rfl, dki_lb F.dn, lbs_nil]; rfl)) ?_
    rw [(F.ab.kill (Nat.le_refl _)).2]
    refine q2 ks' vs' F.dn.lb fun Z T hC => ⟨_, _, F.bf.clo hC fun q hq t ht => ?_, fun x h => .inl h, .inr F.bf.hd⟩
    obtain ⟨j, hj, rfl⟩ := List.mem_iff_getElem.mp hq
    exact hd j _ (by omega) (List.getElem?_eq_getElem hj) t ht
end DL

namespace DL
open PySem L2
local macro_rules | `(tactic| walk_at "go") => `(tactic| repeat (first | refine wp_mb ?_ | with_reducible refine wp_mul (by first | assumption | (exact okMul_iff.mpr (by omega))) ?_ | with_reducible refine wp_mod (by first | assumption | (exact okMod_iff.mpr (by omega))) ?_ | with_reducible refine wp_div (by first | assumption | (exact okDiv_iff.mpr (by omega))) ?_ | with_reducible refine wp_pow (by first | assumption | (exact okPow_iff.mpr (by decide))) ?_ | ((with_reducible refine wp_set ?_ ?_ ?_); (focus rfl); (focus first | exact tT_lb | exact lb_int _ _ | exact lb_bl _ _ | exact lb_non _ | assumption)) | refine wp_eq rfl ?_))
local macro_rules | `(tactic| walk_at "st") => `(tactic| ((first | (refine wp_seqK ?_; intro K hK) | skip); walk_at "go"))
local macro_rules | `(tactic| walk_at "nx") => `(tactic| ((try dsimp only [List.set_cons_zero, List.set_cons_succ]); refine wp_nx (by assumption) ?_; walk_at "st"))
local macro_rules | `(tactic| walk_at "nk") => `(tactic| ((try dsimp only [List.set_cons_zero, List.set_cons_succ]); refine wp_nx (by assumption) ?_))
/-! W3 of k11: the matching -/
def pP : Option Nat → PV
  | none => .non
  | some t => nI t
theorem pP_lb {m : Nat} {p : Option Nat} : (pP p).lb m = true := by cases p with
  | none => exact lb_non _
  | some t => exact lb_int _ _
theorem nonP {p : Option Nat} : (isNonP (pP p) != true) = p.isSome := by cases p <;> rfl
theorem dkv_ix {ks : List Int} {vs : List PV} {i : Int} {v : PV} {st : Sto} (h : ilook ks vs i = some v) : opIx (.dki ks vs) (.int i) st = some (v, st) := by
  show (ilook ks vs i).map (fun v => (v, st)) = _
  rw [h]; rfl
theorem dkv_in {neg : Bool} {ks : List Int} {vs : List PV} {i : Int} {st : Sto} : cmpIn neg (.int i) (.dki ks vs) st = some (.bl ((ilook ks vs i).isSome != neg), st) := rfl
theorem dkv_get {o e : DE} {env : Env} {s0 s1 st : Sto} {ks : List Int} {vs : List PV} {i : Int} (h0 : o env s0 = some (.dki ks vs, s1)) (h2 : e env s1 = some (.int i, st)) : dGet1 o e env s0 = some ((ilook ks vs i).getD .non, st) := by
  unfold dGet1
  rw [h0, mb_some]
  show mb (e env s1) _ = _
  rw [h2, mb_some]
  rfl
theorem getD_pP {n : Nat} {ks : List Int} {vs : List PV} {f : Nat → Option Nat} (h : Dn n ks vs f) (k : Nat) : (ilook ks vs (k : Int)).getD .non = pP (f k) := by
  rw [h.at' k]
  cases f k <;> rfl
structure Ms (n : Nat) (st s : Sto) (ka : List Int) (va : List PV) (kb : List Int) (vb : List PV) (A B : Nat → Option Nat) : Prop where
  ab : Ab st s
  ca : s.cs st.nxt = some (.dki ka va)
  cb : s.cs (st.nxt + 1) = some (.dki kb vb)
  da : Dn n ka va A
  db : Dn n kb vb B
theorem Ms.flip {n : Nat} {st s : Sto} {ka : List Int} {va : List PV} {kb : List Int} {vb : List PV} {A B : Nat → Option Nat} (F : Ms n st s ka va kb vb A B) {sv t : Nat} (hs : sv < n) (ht : t < n) :
    Ms n st ((s.set st.nxt (.dki (iput ka va sv (nI t)).1 (iput ka va sv (nI t)).2)).set (st.nxt + 1) (.dki (iput kb vb t (nI sv)).1 (iput kb vb t (nI sv)).2)) (iput ka va sv (nI t)).1 (iput ka va sv (nI t)).2 (iput kb vb t (nI sv)).1 (iput kb vb t (nI sv)).2 (upd A sv t) (upd B t sv) := by
  obtain ⟨D1, _⟩ := Dn.put F.da hs (j := t)
  obtain ⟨D2, _⟩ := Dn.put F.db ht (j := sv)
  refine ⟨(F.ab.set (Nat.le_refl _)).set (Nat.le_succ _), ?_, ?_, D1, D2⟩
  · rw [Sto.set_ne (by omega)]
    exact Sto.set_get F.ca D1.cell
  · exact Sto.set_get (by rw [Sto.set_ne (by omega)]; exact F.cb) D2.cell
theorem ltL {a b : Nat} (h : a ≤ b) (hb : b < 1000000) : a < sizeLine := Nat.lt_of_le_of_lt h (Nat.lt_of_lt_of_le hb (okL (Nat.le_refl 1000000)))
theorem matching_wp {n : Nat} {G : Nat → List Nat} {gs : List (List Nat)} {st : Sto} {Q : PV → Sto → Prop} (hn : n ≤ 1000) (hgs : ∀ i, i < n → gs[i]? = some (G i)) (hgl : gs.length = n)
    (hG : ∀ s, ∀ t ∈ G s, t < n) (q : ∀ A B ka va kb vb, Dn n ka va A → Dn n kb vb B → Full n G A B → Q (.tup [.dki ka va, .dki kb vb]) st) : wp (f_greatest_matching [grP gs] st) Q := by
  unfold f_greatest_matching
  refine wp_runF rfl ?_
  show wp (D_greatest_matching [some (grP gs), none, none, none, none, none, none, none] st) _
  unfold D_greatest_matching
  walk_at "st"
  walk_at "nx"
  walk_at "nk"
  have lb0 : (Cell.dki [] []).lb st.nxt = true := Dk.nil.cell (n := 0)
  have F0 : Ms n st ((st.alloc (.dki [] [])).alloc (.dki [] [])) [] [] [] [] (fun _ => none) (fun _ => none) := by
    refine ⟨Ab.refl.alloc.alloc, ?_, Sto.alloc_get (Dk.nil.cell (n := 0)), Dk.nil, Dk.nil⟩
    rw [Sto.alloc_ne (by rw [Sto.alloc_nxt]; omega)]
    exact Sto.alloc_get lb0
  refine wp_seqK ?_
  intro K hK
  walk_at "go"
  rw [List.length_map, hgl]
  refine wp_pos (okR (by omega)) ?_
  walk_at "go"
  refine forGo_wp (its := ⟨rng 0 (n : Int), none⟩) (fun k env s => ∃ ka va kb vb A B u3 u4 u5 u6 u7, env = [some (grP gs), some (.loc st.nxt), some (.loc (st.nxt + 1)), u3, u4, u5, u6, u7] ∧ Ms n st s ka va kb vb A B ∧ Mat n G A B none ∧ (∃ Z T, Clo G B Z T ∧ ∀ x, x < k → A x = none → Z x) ∧ ∀ x, A x ≠ none → x < k) _ (fun k x env s hx hI => ?_) (fun env s hI => ?_)
    ⟨_, _, _, _, _, _, _, _, _, _, _, rfl, F0, ⟨fun x y h => (by cases h), fun x y h => (by cases h), fun x t h => (by cases h), fun x y h => (by cases h), fun x y h => (by cases h)⟩, ⟨fun _ => False, fun _ => False, ⟨fun z t h => h.elim, fun t h => h.elim⟩, fun x h => absurd h (Nat.not_lt_zero _)⟩, fun x h => absurd rfl h⟩
  · obtain ⟨ka, va, kb, vb, A, B, u3, u4, u5, u6, u7, rfl, F, M, ⟨Z, T, hZ, hZx⟩, hA⟩ := hI
    obtain ⟨hk, rfl⟩ := rng_at hx
    refine ⟨Its.ok_none, wp_eq rfl ?_⟩
    have hAk : A k = none := by
      cases e : A k with
      | none => rfl
      | some y => exact absurd (hA k (by rw [e]; exact Option.some_ne_none _)) (Nat.lt_irrefl _)
    refine wp_seqK ?_
    intro K2 hK2
    walk_at "go"
    refine free_wp hn hgs hG M hAk hk F.cb F.db (fun t ks' vs' C r D W hB hC => ?_) (fun ks' vs' hlb hcl => ?_)
    · refine wp_set rfl (by rw [lb_tup, lbs_cons, lb_int, lbs_cons, dki_lb D, lbs_nil]; rfl) ?_
      walk_at "go"
      walk_at "nk"
      obtain ⟨sv, hsv⟩ : ∃ sv, C t = some sv := by
        cases e : C t with
        | none => exact absurd e hC
        | some sv => exact ⟨sv, rfl⟩
      have Mt : Mat n G A B (some t) := by
        refine ⟨M.ab, fun x y h _ => M.ba x y h (fun e => by cases e), fun x t' h e => ?_, M.g, M.lt⟩
        cases h
        rw [M.ab _ _ e] at hB
        cases hB
      have Fl0 : Fl2 n G A k C r Z T A B (some t) := by
        refine ⟨Mt, hZ, fun t' h hT => ?_, fun t' h => ?_, fun x h => Nat.le_of_lt (hA x h), fun x h => h, fun h => by cases h⟩
        · cases h
          obtain ⟨z, hz, _⟩ := hZ.tb t hT
          rw [hB] at hz
          cases hz
        · cases h
          exact ⟨sv, hsv, fun _ _ => rfl⟩
      refine wp_while (n + 1) (by omega) (fun m env s => ∃ ka va kb vb A' B' p u6 u7, env = [some (grP gs), some (.loc st.nxt), some (.loc (st.nxt + 1)), some (nI k), some (pP p), some (.dki ks' vs'), u6, u7] ∧ Ms n st s ka va kb vb A' B' ∧ Fl2 n G A k C r Z T A' B' p ∧ ∀ t, p = some t → ∃ s, C t = some s ∧ r s < m) (fun m env s hI => ?_)
        ⟨_, _, _, _, _, _, some t, _, _, rfl, F, Fl0, fun t' h => by
          cases h
          have := (W t sv hsv).2.2.2.1
          exact ⟨sv, hsv, by omega⟩⟩
      clear Fl0 Mt F hsv
      obtain ⟨ka', va', kb', vb', A', B', p, w6, w7, rfl, F, L, hm⟩ := hI
      walk_at "go"
      rw [nonP]
      cases p with
      | none =>
        rw [if_neg (by decide)]
        refine ⟨_, _, _, _, _, _, _, _, _, _, _, rfl, F, L.mat, ⟨Z, T, L.clo, fun x hx e => ?_⟩, fun x h => Nat.lt_succ_of_le (L.dom x h)⟩
        by_cases e2 : x = k
        · subst e2; exact absurd e (L.fin rfl)
        · refine hZx x (by omega) ?_
          cases e3 : A x with
          | none => rfl
          | some y => exact absurd e (L.mono x (by rw [e3]; exact Option.some_ne_none _))
      | some t' =>
        rw [show (Option.isSome (some t')) = true from rfl, if_pos rfl]
        obtain ⟨s1, hs1, hr⟩ := hm t' rfl
        obtain ⟨w1, w2, w3, w4, w5⟩ := W t' s1 hs1
        obtain ⟨L1, L2⟩ := L.flip M hA W hs1
        have e1 : ilook ks' vs' (t' : Int) = some (nI s1) := by rw [D.at' t', hs1]; rfl
        have F1 := F.flip w1 w2
        refine wp_seqK ?_
        intro K3 hK3
        walk_at "go"
        rw [show pP (some t') = PV.int (t' : Int) from rfl]
        refine wp_eq (dkv_ix e1) ?_
        walk_at "go"
        walk_at "nk"
        refine wp_seqK ?_
        intro K4 hK4
        walk_at "go"
        refine wp_eq (dki_get rfl (dki_of F.ca) rfl F.ca) ?_
        rw [getD_pP F.da]
        walk_at "go"
        walk_at "nk"
        refine wp_seqK ?_
        intro K5 hK5
        walk_at "go"
        refine wp_map (dki_set F.ca (lb_int _ _) (ltL F.da.len (by omega))) ?_
        walk_at "go"
        walk_at "nk"
        refine wp_seqK ?_
        intro K6 hK6
        walk_at "go"
        refine wp_map (dki_set (ks := kb') (vs := vb') (by rw [Sto.set_ne (by omega)]; exact F.cb) (lb_int _ _) (ltL F.db.len (by omega))) ?_
        walk_at "go"
        walk_at "nk"
        walk_at "go"
        refine ⟨r s1, hr, _, _, _, _, _, _, A' s1, _, _, rfl, F1, L1, L2⟩
    · refine wp_set rfl (by rw [lb_tup, lbs_cons, lb_non, lbs_cons, show (PV.dki ks' vs').lb s.nxt = true from (Cell.lb_val (n := s.nxt) (c := .dki ks' vs')).trans (Cell.lb_mono (Nat.zero_le _) (show lbs 0 vs' = true from hlb)), lbs_nil]; rfl) ?_
      walk_at "go"
      walk_at "nk"
      walk_at "go"
      obtain ⟨Z', T', h1, h2, h3⟩ := hcl Z T hZ
      refine ⟨_, _, _, _, _, _, _, _, _, _, _, rfl, F, M, ⟨Z', T', h1, fun x hx e => ?_⟩, fun x h => Nat.lt_succ_of_lt (hA x h)⟩
      by_cases e2 : x = k
      · subst e2; exact h3
      · exact h2 x (hZx x (by omega) e)
  · obtain ⟨ka, va, kb, vb, A, B, u3, u4, u5, u6, u7, rfl, F, M, ⟨Z, T, hZ, hZx⟩, hA⟩ := hI
    refine ⟨Its.ok_none, ?_⟩
    rw [rng_len] at hZx
    walk_at "nk"
    walk_at "go"
    refine wp_eq (frz_eq F.ca) ?_
    walk_at "go"
    refine wp_eq (frz_eq (c := .dki kb vb) (by rw [Sto.kill_ne (by omega)]; exact F.cb)) ?_
    walk_at "go"
    refine wp_eq (fin_val (by rw [lb_tup, lbs_cons, show (Cell.val (.dki ka va)) = PV.dki ka va from rfl, dki_lb F.da, lbs_cons, show (Cell.val (.dki kb vb)) = PV.dki kb vb from rfl, dki_lb F.db, lbs_nil]; rfl)) ?_
    rw [((F.ab.kill (Nat.le_refl _)).kill (Nat.le_succ _)).2]
    exact q A B ka va kb vb F.da F.db ⟨M, Z, T, hZ, hZx⟩
end DL

namespace DL
open PySem L2
local macro_rules | `(tactic| walk_at "go") => `(tactic| repeat (first | refine wp_mb ?_ | with_reducible refine wp_mul (by first | assumption | (exact okMul_iff.mpr (by omega))) ?_ | with_reducible refine wp_mod (by first | assumption | (exact okMod_iff.mpr (by omega))) ?_ | with_reducible refine wp_div (by first | assumption | (exact okDiv_iff.mpr (by omega))) ?_ | with_reducible refine wp_pow (by first | assumption | (exact okPow_iff.mpr (by decide))) ?_ | ((with_reducible refine wp_set ?_ ?_ ?_); (focus rfl); (focus first | exact tT_lb | exact lb_int _ _ | exact lb_bl _ _ | exact lb_non _ | assumption)) | refine wp_eq rfl ?_))
local macro_rules | `(tactic| walk_at "st") => `(tactic| ((first | (refine wp_seqK ?_; intro K hK) | skip); walk_at "go"))
local macro_rules | `(tactic| walk_at "nx") => `(tactic| ((try dsimp only [List.set_cons_zero, List.set_cons_succ]); refine wp_nx (by assumption) ?_; walk_at "st"))
local macro_rules | `(tactic| walk_at "nk") => `(tactic| ((try dsimp only [List.set_cons_zero, List.set_cons_succ]); refine wp_nx (by assumption) ?_))
/-! W4 of k11: orders along the chains -/
theorem servB_app {o r s : List Int} (h : servB o s = true) : servB (o ++ r) s = true := by
  rw [serv_iff] at h ⊢
  have hl : s.length ≤ o.length := by
    have := h.1
    rw [List.length_take] at this
    omega
  rw [List.take_append_of_le_length hl]
  exact h
/-- the columns of one search behind what it holds already -/
theorem add_search {o s : List Int} (ho : o.Nodup) (hs : s.Nodup) (h : ∀ c ∈ o, c ∈ s) : (o ++ s.filter fun c => !o.contains c).Nodup ∧ (∀ c, c ∈ (o ++ s.filter fun c => !o.contains c) ↔ c ∈ s) := by
  refine ⟨List.nodup_append.mpr ⟨ho, hs.filter _, fun a ha b hb e => ?_⟩, fun c => ?_⟩
  · subst e
    have := (List.mem_filter.mp hb).2
    rw [List.contains_iff_mem.mpr ha] at this
    cases this
  · rw [List.mem_append, List.mem_filter]
    constructor
    · rintro (h1 | h1)
      · exact h c h1
      · exact h1.1
    · intro h1
      by_cases h2 : c ∈ o
      · exact .inl h2
      · refine .inr ⟨h1, ?_⟩
        cases e : o.contains c with
        | false => rfl
        | true => exact absurd (List.contains_iff_mem.mp e) h2
theorem serv_full {o s : List Int} (ho : o.Nodup) (hs : s.Nodup) (h : ∀ c, c ∈ o ↔ c ∈ s) : servB o s = true := by
  have h1 := nodup_len ho fun c hc => (h c).mp hc
  have h2 := nodup_len hs fun c hc => (h c).mpr hc
  rw [serv_iff, List.take_of_length_le (by omega)]
  exact ⟨by omega, fun c hc => (h c).mpr hc⟩
theorem rows_at {S : List (List Int)} {k : Nat} (h : k < S.length) {st : Sto} : opIx (rowsP S) (.int (k : Int)) st = some (tT (S.getD k []), st) :=
  seq_ix (xs := S.map tT) rfl (atI_nat (by rw [List.getElem?_map, List.getElem?_eq_getElem h, List.getD_eq_getElem?_getD, List.getElem?_eq_getElem h]; rfl))
theorem lc_sub {its : Its} {g : DG} {t : DT} {e : DE} {env : Env} {st : Sto} {l : List Int} (hi : its.items = l.map .int) (ok : its.ok st) (q : Int → Bool)
    (h : ∀ c ∈ l, wp (g (.int c) env st) fun e1 s1 => s1 = st ∧ wp (t e1 st) fun b s2 => s2 = st ∧ b = q c ∧ (q c = true → wp (e e1 st) fun v s3 => s3 = st ∧ v = .int c)) :
    lcGo its g t e env its.items st = some ((l.filter q).map .int, st) := by
  rw [lc_at ok (fun k => q (l.getD k 0)) (fun k => .int (l.getD k 0)) fun k x hx => ?_]
  · rw [hi, List.length_map]
    congr 2
    have : ∀ l : List Int, ((List.range l.length).filter fun k => q (l.getD k 0)).map (fun k => PV.int (l.getD k 0)) = (l.filter q).map PV.int := by
      intro l
      induction l with
      | nil => rfl
      | cons x l ih =>
        rw [List.length_cons, List.range_succ_eq_map, List.filter_cons, List.filter_map, List.filter_cons]
        have e2 : List.map (fun k => PV.int ((x :: l).getD k 0)) (List.map Nat.succ (List.filter ((fun k => q ((x :: l).getD k 0)) ∘ Nat.succ) (List.range l.length))) = (l.filter q).map PV.int := by
          rw [List.map_map, ← ih]
          rfl
        by_cases hq : q x = true
        · rw [if_pos hq, if_pos (show q ((x :: l).getD 0 0) = true from hq), List.map_cons, e2]
          rfl
        · rw [if_neg hq, if_neg (show ¬ q ((x :: l).getD 0 0) = true from hq), e2]
    exact this l
  · rw [hi] at hx
    obtain ⟨c, hc, hm, rfl⟩ := get_map hx
    rw [getD_some hc]
    exact h c hm
theorem along_wp {S : List (List Int)} {A B : Nat → Option Nat} {ka : List Int} {va : List PV} {start : Nat} {st : Sto} {Q : PV → Sto → Prop} (H : Srs S) (D : Dn S.length ka va A) (M : Mat S.length (Gr S) A B none) (hs : start < S.length)
    (q : ∀ o, Along S A start o → Q (tT o) st) : wp (f_order_along [rowsP S, .dki ka va, nI start] st) Q := by
  unfold f_order_along
  refine wp_runF rfl ?_
  show wp (D_order_along [some (rowsP S), some (.dki ka va), some (nI start), none, none, none] st) _
  unfold D_order_along
  walk_at "st"
  walk_at "nx"
  walk_at "nk"
  refine wp_seqK ?_
  intro K hK
  refine wp_while 7 (by omega) (fun m env s => s = st ∧ ∃ p o u5, env = [some (rowsP S), some (.dki ka va), some (nI start), some (.lst (o.map .int)), some (pP p), u5] ∧ o.Nodup ∧ (∀ c ∈ o, 0 ≤ c ∧ c ≤ 5) ∧ (∀ x, p = some x → x < S.length ∧ (∀ c ∈ o, c ∈ S.getD x []) ∧ 7 ≤ (S.getD x []).length + m) ∧ ∀ y, Rch A start y → servB o (S.getD y []) = true ∨ ∃ x, p = some x ∧ Rch A x y) (fun m env s hI => ?_)
    ⟨rfl, some start, [], _, rfl, List.nodup_nil, fun c h => (by cases h), fun x h => by cases h; exact ⟨hs, fun c h => (by cases h), Nat.le_add_left _ _⟩, fun y h => .inr ⟨_, rfl, h⟩⟩
  obtain ⟨rfl, p, o, u5, rfl, hnd, hok, hp, hsv⟩ := hI
  walk_at "go"
  rw [nonP]
  cases p with
  | none =>
    rw [if_neg (by decide)]
    walk_at "nk"
    walk_at "go"
    have hlen := cols_len hnd hok
    refine wp_eq (bTuple_lst (by rw [List.length_map]; omega)) ?_
    walk_at "go"
    refine wp_eq (fin_val tT_lb) ?_
    rw [Sto.restr_self]
    refine q o ⟨hnd, hok, fun x hx => ?_⟩
    rcases hsv x hx with h | ⟨_, h, _⟩
    · exact h
    · cases h
  | some x =>
    rw [show (Option.isSome (some x)) = true from rfl, if_pos rfl]
    obtain ⟨hx, hsub, hm⟩ := hp x rfl
    have hSx := H.ok _ (getD_mem hx)
    obtain ⟨n1, n2⟩ := add_search hnd hSx.nodup hsub
    have hl6 := hSx.len
    refine wp_seqK ?_
    intro K3 hK3
    walk_at "go"
    refine wp_eq (rows_at hx) ?_
    walk_at "go"
    refine wp_eq (lc_sub (its := ⟨(S.getD x []).map .int, none⟩) (l := S.getD x []) rfl Its.ok_none (fun c => !o.contains c) (fun c hc => ?_)) ?_
    · refine wp_eq rfl ⟨rfl, ?_⟩
      walk_at "go"
      refine wp_eq (cmpIn_ints (s := o) rfl) ?_
      refine wp_eq rfl ⟨rfl, ?_, fun _ => wp_eq rfl ⟨rfl, rfl⟩⟩
      cases o.contains c <;> rfl
    refine wp_eq (mkV_eq (okL (by rw [List.length_map]; exact Nat.le_trans (List.length_filter_le _ _) (by omega)))) ?_
    walk_at "go"
    have hl2 := cols_len n1 fun c hc => hSx.2 c ((n2 c).mp hc)
    refine wp_eq ((add_lst rfl).trans (mkV_eq (okL (by rw [← List.map_append, List.length_map]; omega)))) ?_
    rw [← List.map_append]
    walk_at "go"
    walk_at "nk"
    walk_at "go"
    refine wp_eq (dkv_get rfl rfl) ?_
    rw [getD_pP D]
    walk_at "go"
    refine ⟨m - 1, by omega, rfl, A x, _, _, rfl, n1, fun c hc => hSx.2 c ((n2 c).mp hc), fun y hy => ?_, fun y hy => ?_⟩
    · have hg := M.g _ _ hy
      have hgrow := H.grow hx hg
      refine ⟨Gr_lt hg, fun c hc => ?_, by omega⟩
      exact has_iff.mp (Gr_iff.mp hg).2.2 c ((n2 c).mp hc)
    · rcases hsv y hy with h | ⟨_, h, hr⟩
      · exact .inl (servB_app h)
      · cases h
        rcases hr.cases' with rfl | ⟨z, hz, hr⟩
        · exact .inl (serv_full n1 hSx.nodup n2)
        · exact .inr ⟨z, hz, hr⟩
end DL

namespace DL
open PySem L2
local macro_rules | `(tactic| walk_at "go") => `(tactic| repeat (first | refine wp_mb ?_ | with_reducible refine wp_mul (by first | assumption | (exact okMul_iff.mpr (by omega))) ?_ | with_reducible refine wp_mod (by first | assumption | (exact okMod_iff.mpr (by omega))) ?_ | with_reducible refine wp_div (by first | assumption | (exact okDiv_iff.mpr (by omega))) ?_ | with_reducible refine wp_pow (by first | assumption | (exact okPow_iff.mpr (by decide))) ?_ | ((with_reducible refine wp_set ?_ ?_ ?_); (focus rfl); (focus first | exact tT_lb | exact lb_int _ _ | exact lb_bl _ _ | exact lb_non _ | assumption)) | refine wp_eq rfl ?_))
local macro_rules | `(tactic| walk_at "st") => `(tactic| ((first | (refine wp_seqK ?_; intro K hK) | skip); walk_at "go"))
local macro_rules | `(tactic| walk_at "nx") => `(tactic| ((try dsimp only [List.set_cons_zero, List.set_cons_succ]); refine wp_nx (by assumption) ?_; walk_at "st"))
local macro_rules | `(tactic| walk_at "nk") => `(tactic| ((try dsimp only [List.set_cons_zero, List.set_cons_succ]); refine wp_nx (by assumption) ?_))
/-! W5 of k11: the searches apart -/
def bD (R : Nat → Bool) : Nat → Option PV := fun k => if R k then some (.bl true) else none
def setB (R : Nat → Bool) (k : Nat) : Nat → Bool := fun x => decide (x = k) || R x
theorem bD_upd (R : Nat → Bool) (k : Nat) : upd (bD R) k (.bl true) = bD (setB R k) := by
  funext x
  unfold upd bD setB
  by_cases h : x = k
  · rw [if_pos h, decide_eq_true h]; rfl
  · rw [if_neg h, decide_eq_false h, Bool.false_or]
theorem setB_mono {R : Nat → Bool} {k x : Nat} (h : R x = true) : setB R k x = true := by unfold setB; rw [h, Bool.or_true]
theorem setB_eq {R : Nat → Bool} {k : Nat} : setB R k k = true := by unfold setB; rw [decide_eq_true rfl]; rfl
theorem setB_cases {R : Nat → Bool} {k x : Nat} (h : setB R k x = true) : x = k ∨ R x = true := by
  unfold setB at h
  rw [Bool.or_eq_true, decide_eq_true_iff] at h
  exact h
structure As (n : Nat) (st s : Sto) (kr : List Int) (vr : List PV) (km : List Int) (vm : List PV) (L : List Nat) (R M : Nat → Bool) : Prop where
  ab : Ab st s
  cr : s.cs st.nxt = some (.dki kr vr)
  cm : s.cs (st.nxt + 1) = some (.dki km vm)
  cl : s.cs (st.nxt + 2) = some (.lst (L.map nI))
  dr : Dk n kr vr (bD R)
  dm : Dk n km vm (bD M)
structure Ap (n : Nat) (G : Nat → List Nat) (A B : Nat → Option Nat) (Z : Nat → Prop) (L : List Nat) (R M : Nat → Bool) : Prop where
  free : ∀ x, x < n → A x = none → R x = true ∨ x ∈ L
  gm : ∀ r t, R r = true → t ∈ G r → M t = true ∧ ∃ z, B t = some z ∧ (R z = true ∨ z ∈ L)
  zr : ∀ x, (R x = true ∨ x ∈ L) → x < n ∧ Z x
  mr : ∀ t, M t = true → ∃ r, R r = true ∧ t ∈ G r
theorem some_bD {R : Nat → Bool} {k : Nat} : (bD R k).isSome = R k := by
  unfold bD
  cases R k <;> rfl
theorem apart_wp {S : List (List Int)} {gs : List (List Nat)} {A B : Nat → Option Nat} {ka kb : List Int} {va vb : List PV} {st : Sto} {Q : PV → Sto → Prop} (hn : S.length ≤ 64) (hgs : ∀ i, i < S.length → gs[i]? = some (Gr S i))
    (DA : Dn S.length ka va A) (DB : Dn S.length kb vb B) (F : Full S.length (Gr S) A B)
    (q : ∀ R M, Apart S.length (Gr S) A B R M → Q (.loc st.nxt) (st.alloc (.lst ((apartL S R M).map tT)))) : wp (f_searches_apart [rowsP S, grP gs, .dki ka va, .dki kb vb] st) Q := by
  obtain ⟨K0, Z, T, hZ, hZx⟩ := F
  unfold f_searches_apart
  refine wp_runF rfl ?_
  show wp (D_searches_apart [some (rowsP S), some (grP gs), some (.dki ka va), some (.dki kb vb), none, none, none, none, none, none, none] st) _
  unfold D_searches_apart
  walk_at "st"
  walk_at "nx"
  walk_at "nk"
  refine wp_seqK ?_
  intro K hK
  walk_at "go"
  rw [List.length_map]
  refine wp_pos (okR (by omega)) ?_
  walk_at "go"
  refine wp_eq (lc_at (its := ⟨rng 0 (S.length : Int), none⟩) Its.ok_none (fun k => (A k).isNone) nI (fun k x hx => ?_)) ?_
  · obtain ⟨hk, rfl⟩ := rng_at hx
    refine wp_eq rfl ⟨rfl, ?_⟩
    walk_at "go"
    rw [DA.at' k]
    refine ⟨rfl, ?_, fun _ => wp_eq rfl ⟨rfl, rfl⟩⟩
    cases A k <;> rfl
  rw [rng_len]
  have hL0 : ((List.range S.length).filter fun k => (A k).isNone).length ≤ S.length := Nat.le_trans (List.length_filter_le _ _) (by rw [List.length_range]; exact Nat.le_refl _)
  refine wp_eq (mkM_eq (okL (by rw [List.length_map]; omega)) (nis_lb _)) ?_
  have F0 : As S.length st (((st.alloc (.dki [] [])).alloc (.dki [] [])).alloc (.lst (((List.range S.length).filter fun k => (A k).isNone).map nI))) [] [] [] [] ((List.range S.length).filter fun k => (A k).isNone) (fun _ => false) (fun _ => false) := by
    have lb0 : ∀ m, (Cell.dki [] []).lb m = true := fun m => Dk.nil.cell (n := 0)
    refine ⟨Ab.refl.alloc.alloc.alloc, ?_, ?_, Sto.alloc_get (nis_lb _), Dk.nil, Dk.nil⟩
    · rw [Sto.alloc_ne (by rw [Sto.alloc_nxt, Sto.alloc_nxt]; omega), Sto.alloc_ne (by rw [Sto.alloc_nxt]; omega)]
      exact Sto.alloc_get (lb0 _)
    · rw [Sto.alloc_ne (by rw [Sto.alloc_nxt, Sto.alloc_nxt]; omega)]
      exact Sto.alloc_get (lb0 _)
  walk_at "go"
  walk_at "nk"
  clear hK
  refine wp_seqK ?_
  intro K hK
  have hG : ∀ s, ∀ t ∈ Gr S s, t < S.length := fun s t h => Gr_lt h
  have hGl : ∀ s, (Gr S s).length ≤ S.length := fun s => Nat.le_trans (List.length_filter_le _ _) (by rw [List.length_range]; exact Nat.le_refl _)
  have hfuel : S.length + (S.length + 1) * S.length < 100000 := by
    have := Nat.mul_le_mul (show S.length + 1 ≤ 65 by omega) hn
    omega
  have zr0 : ∀ x, ((fun _ => false : Nat → Bool) x = true ∨ x ∈ (List.range S.length).filter fun k => (A k).isNone) → x < S.length ∧ Z x := fun x h => by
    rcases h with h | h
    · cases h
    · obtain ⟨h1, h2⟩ := List.mem_filter.mp h
      exact ⟨List.mem_range.mp h1, hZx x (List.mem_range.mp h1) (Option.isNone_iff_eq_none.mp h2)⟩
  refine wp_while (S.length + (S.length + 1) * S.length) hfuel (fun m env s => ∃ kr vr km vm L R M u7 u8 u9 u10, env = [some (rowsP S), some (grP gs), some (.dki ka va), some (.dki kb vb), some (.loc st.nxt), some (.loc (st.nxt + 1)), some (.loc (st.nxt + 2)), u7, u8, u9, u10] ∧ As S.length st s kr vr km vm L R M ∧ Ap S.length (Gr S) A B Z L R M ∧ L.length + (S.length + 1) * (S.length - kr.length) ≤ m ∧ m < 100000) (fun m env s hI => ?_)
    ⟨_, _, _, _, _, _, _, _, _, _, _, rfl, F0, ⟨fun x hx e => .inr (List.mem_filter.mpr ⟨List.mem_range.mpr hx, by rw [e]; rfl⟩), fun r t h => (by cases h), zr0, fun t h => (by cases h)⟩, (by simpa using hL0), hfuel⟩
  clear F0 hL0 zr0
  obtain ⟨kr, vr, km, vm, L, R, M, u7, u8, u9, u10, rfl, F, P, hm, hm1⟩ := hI
  have tL : tTru (dVar 6) [some (rowsP S), some (grP gs), some (.dki ka va), some (.dki kb vb), some (.loc st.nxt), some (.loc (st.nxt + 1)), some (.loc (st.nxt + 2)), u7, u8, u9, u10] s = some (!L.isEmpty, s) := by
    show (match lstOf s (.loc (st.nxt + 2)) with | some xs => some (!xs.isEmpty, s) | none => none) = _
    rw [lst_loc F.cl]
    cases L <;> rfl
  refine wp_eq tL ?_
  cases hL : L.reverse with
  | nil =>
    have : L = [] := List.reverse_eq_nil_iff.mp hL
    subst this
    rw [show (![].isEmpty : Bool) = false from rfl, if_neg (by decide)]
    walk_at "nk"
    walk_at "go"
    refine wp_eq (lc_at (its := ⟨numb 0 (S.map tT), none⟩) Its.ok_none (fun k => R k && !M k) (fun k => tT (S.getD k [])) (fun k x hx => ?_)) ?_
    · obtain ⟨y, hy, rfl⟩ := numb_at hx
      obtain ⟨o, ho, _, rfl⟩ := get_map hy
      refine wp_eq rfl ⟨rfl, ?_⟩
      walk_at "go"
      refine wp_eq (dki_in F.cr) ?_
      rw [F.dr.at' k, some_bD]
      cases hR : R k with
      | false =>
        refine wp_eq rfl ?_
        rw [if_neg (by decide)]
        exact wp_ret ⟨rfl, rfl, fun h => by cases h⟩
      | true =>
        refine wp_eq rfl ?_
        rw [if_pos (by decide)]
        walk_at "go"
        refine wp_eq (dki_in F.cm) ?_
        rw [F.dm.at' k, some_bD]
        refine wp_eq rfl ⟨rfl, ?_, fun _ => wp_eq rfl ⟨rfl, ?_⟩⟩
        · cases M k <;> rfl
        · rw [getD_some ho]
    rw [numb_len, List.length_map]
    have e1 : ((List.range S.length).filter fun k => R k && !M k).map (fun k => tT (S.getD k [])) = (apartL S R M).map tT := by
      unfold apartL
      rw [List.map_map]
      rfl
    rw [e1]
    have hlb : ∀ m, lbs m ((apartL S R M).map tT) = true := fun m => lbs_map (fun _ => tT_lb) _
    have hAl : (apartL S R M).length ≤ S.length := by
      unfold apartL
      rw [List.length_map]
      exact Nat.le_trans (List.length_filter_le _ _) (by rw [List.length_range]; exact Nat.le_refl _)
    refine wp_eq (mkM_eq (okL (by rw [List.length_map]; omega)) (hlb _)) ?_
    walk_at "go"
    refine wp_eq (fin_loc F.ab.1 (Sto.alloc_get (hlb _)) (hlb _)) ?_
    rw [F.ab.alloc.2]
    refine q R M ⟨fun x hx e => ?_, fun r t h1 h2 => (P.gm r t h1 h2).1, P.mr, fun t h => ?_⟩
    · rcases P.free x hx e with h | h
      · exact h
      · cases h
    · obtain ⟨r, h1, h2⟩ := P.mr t h
      obtain ⟨_, z, h3, h4⟩ := P.gm r t h1 h2
      refine ⟨z, h3, ?_⟩
      rcases h4 with h | h
      · exact h
      · cases h
  | cons x L1 =>
    have eL : L = L1.reverse ++ [x] := by rw [← List.reverse_reverse L, hL, List.reverse_cons]
    clear hL tL
    generalize L1.reverse = L' at eL
    subst eL
    rw [show (!(L' ++ [x]).isEmpty : Bool) = true by cases L' <;> rfl, if_pos rfl]
    refine wp_seqK ?_
    intro K2 hK2
    walk_at "go"
    refine wp_eq (loc_asL F.cl) ?_
    walk_at "go"
    have hpop : mPop (st.nxt + 2) [] s = some (nI x, s.set (st.nxt + 2) (.lst (L'.map nI))) := by
      rw [loc_pop F.cl (v := nI x) (by rw [List.length_map, List.length_append, List.map_append, List.getElem?_append_right (by rw [List.length_map]; show L'.length ≤ L'.length + 1 - 1; omega), List.length_map]; show [nI x][L'.length + 1 - 1 - L'.length]? = _; rw [show L'.length + 1 - 1 - L'.length = 0 by omega]; rfl)]
      congr 3
      rw [List.map_append]
      show Cell.lst ((L'.map nI ++ [nI x]).dropLast) = _
      rw [List.dropLast_concat]
    refine wp_eq hpop ?_
    have F1 : As S.length st (s.set (st.nxt + 2) (.lst (L'.map nI))) kr vr km vm L' R M := ⟨F.ab.set (by omega), by rw [Sto.set_ne (by omega)]; exact F.cr, by rw [Sto.set_ne (by omega)]; exact F.cm, Sto.set_get F.cl (nis_lb _), F.dr, F.dm⟩
    generalize s.set (st.nxt + 2) (.lst (L'.map nI)) = s1 at F1 ⊢
    rw [List.length_append] at hm
    have hm : L'.length + 1 + (S.length + 1) * (S.length - kr.length) ≤ m := hm
    walk_at "go"
    walk_at "nk"
    walk_at "go"
    refine wp_eq (dki_in F1.cr) ?_
    rw [F1.dr.at' x, some_bD]
    obtain ⟨hxn, hxZ⟩ := P.zr x (.inr (List.mem_append_right _ (List.mem_singleton.mpr rfl)))
    cases hR : R x with
    | true =>
      refine wp_eq rfl ?_
      rw [if_neg (by decide)]
      walk_at "go"
      have out : ∀ z, (R z = true ∨ z ∈ L' ++ [x]) → R z = true ∨ z ∈ L' := fun z h => by
        rcases h with h | h
        · exact .inl h
        · rcases List.mem_append.mp h with h | h
          · exact .inr h
          · rw [List.mem_singleton.mp h]; exact .inl hR
      refine ⟨m - 1, by omega, _, _, _, _, _, _, _, _, _, _, _, rfl, F1, ⟨fun y hy e => out y (P.free y hy e), fun r t h1 h2 => ?_, fun y h => P.zr y (h.imp_right fun h => List.mem_append_left _ h), P.mr⟩, by omega, by omega⟩
      obtain ⟨a, z, b, c⟩ := P.gm r t h1 h2
      exact ⟨a, z, b, out z c⟩
    | false =>
      refine wp_eq rfl ?_
      rw [if_pos (by decide)]
      refine wp_seqK ?_
      intro K3 hK3
      walk_at "go"
      refine wp_map (dki_set F1.cr (lb_bl _ _) (ltL F1.dr.len (by omega))) ?_
      obtain ⟨D1, D2⟩ := Dk.put F1.dr hxn (v := .bl true) (lb_bl _ _)
      have D2 := D2 (by unfold bD; rw [hR]; rfl)
      rw [bD_upd] at D1
      have F2 : As S.length st (s1.set st.nxt (.dki (iput kr vr x (.bl true)).1 (iput kr vr x (.bl true)).2)) (iput kr vr x (.bl true)).1 (iput kr vr x (.bl true)).2 km vm L' (setB R x) M := ⟨F1.ab.set (Nat.le_refl _), Sto.set_get F1.cr D1.cell, by rw [Sto.set_ne (by omega)]; exact F1.cm, by rw [Sto.set_ne (by omega)]; exact F1.cl, D1, F1.dm⟩
      generalize s1.set st.nxt (.dki (iput kr vr x (.bl true)).1 (iput kr vr x (.bl true)).2) = s2 at F2 ⊢
      generalize (iput kr vr x (.bl true)).1 = kr2 at *
      generalize (iput kr vr x (.bl true)).2 = vr2 at *
      walk_at "go"
      walk_at "nk"
      walk_at "go"
      refine wp_eq (gr_at (hgs x hxn)) ?_
      walk_at "go"
      refine forGo_wp (its := ⟨(Gr S x).map nI, none⟩) (fun k env s => ∃ km vm L2 M u9, env = [some (rowsP S), some (grP gs), some (.dki ka va), some (.dki kb vb), some (.loc st.nxt), some (.loc (st.nxt + 1)), some (.loc (st.nxt + 2)), u7, some (nI x), u9, u10] ∧ As S.length st s kr2 vr2 km vm L2 (setB R x) M ∧ L2.length = L'.length + k ∧ (∀ z, z ∈ L' → z ∈ L2)
          ∧ (∀ r t, R r = true → t ∈ Gr S r → M t = true ∧ ∃ z, B t = some z ∧ (setB R x z = true ∨ z ∈ L2)) ∧ (∀ t ∈ (Gr S x).take k, M t = true ∧ ∃ z, B t = some z ∧ (setB R x z = true ∨ z ∈ L2)) ∧ (∀ y, (setB R x y = true ∨ y ∈ L2) → y < S.length ∧ Z y) ∧ ∀ t, M t = true → ∃ r, setB R x r = true ∧ t ∈ Gr S r) _ (fun k y env s hx hI => ?_) (fun env s hI => ?_)
        ⟨_, _, _, _, _, rfl, F2, rfl, fun z h => h, fun r t h1 h2 => ?_, fun t h => (by cases h), fun y h => ?_, fun t h => ?_⟩
      · obtain ⟨km3, vm3, L3, M3, w9, rfl, F3, hl3, hs3, g3, t3, z3, m3⟩ := hI
        obtain ⟨t, hgt, htm, rfl⟩ := get_map hx
        have htn := hG x t htm
        have htake : (Gr S x).take (k + 1) = (Gr S x).take k ++ [t] := by rw [List.take_add_one, hgt]; rfl
        obtain ⟨z, hBz, hZz⟩ := hZ.tb t (hZ.gz x t hxZ htm)
        have hkn : k < (Gr S x).length := (List.getElem?_eq_some_iff.mp hgt).1
        have hgl := hGl x
        refine ⟨Its.ok_none, wp_eq rfl ?_⟩
        refine wp_seqK ?_
        intro K4 hK4
        walk_at "go"
        refine wp_map (dki_set F3.cm (lb_bl _ _) (ltL F3.dm.len (by omega))) ?_
        obtain ⟨D3, _⟩ := Dk.put F3.dm htn (v := .bl true) (lb_bl _ _)
        rw [bD_upd] at D3
        walk_at "go"
        walk_at "nk"
        walk_at "go"
        have F4 : As S.length st (s.set (st.nxt + 1) (.dki (iput km3 vm3 t (.bl true)).1 (iput km3 vm3 t (.bl true)).2)) kr2 vr2 (iput km3 vm3 t (.bl true)).1 (iput km3 vm3 t (.bl true)).2 L3 (setB R x) (setB M3 t) := ⟨F3.ab.set (by omega), by rw [Sto.set_ne (by omega)]; exact F3.cr, Sto.set_get F3.cm D3.cell, by rw [Sto.set_ne (by omega)]; exact F3.cl, F3.dr, D3⟩
        generalize s.set (st.nxt + 1) (.dki (iput km3 vm3 t (.bl true)).1 (iput km3 vm3 t (.bl true)).2) = s4 at F4 ⊢
        refine wp_eq (loc_asL F4.cl) ?_
        walk_at "go"
        refine wp_eq (dkv_ix (v := nI z) (by rw [DB.at' t, hBz]; rfl)) ?_
        walk_at "go"
        have hL'n : L'.length ≤ 100000 := by omega
        refine wp_eq (loc_append F4.cl (by rw [List.length_map]; exact ltL (Nat.le_refl _) (by omega)) (lb_int _ _)) ?_
        walk_at "go"
        have hz1 : z ∈ L3 ++ [z] := List.mem_append_right _ (List.mem_singleton.mpr rfl)
        have mono : ∀ t' , (M3 t' = true ∧ ∃ z', B t' = some z' ∧ (setB R x z' = true ∨ z' ∈ L3)) → (setB M3 t t' = true ∧ ∃ z', B t' = some z' ∧ (setB R x z' = true ∨ z' ∈ L3 ++ [z])) := fun t' h => by
          obtain ⟨a, z', b, c⟩ := h
          exact ⟨setB_mono a, z', b, c.imp_right fun h => List.mem_append_left _ h⟩
        refine ⟨_, _, L3 ++ [z], _, _, rfl, ⟨F4.ab.set (by omega), by rw [Sto.set_ne (by omega)]; exact F4.cr, by rw [Sto.set_ne (by omega)]; exact F4.cm, ?_, F4.dr, F4.dm⟩, by rw [List.length_append, hl3]; rfl, fun z' h => List.mem_append_left _ (hs3 z' h), fun r t' h1 h2 => mono t' (g3 r t' h1 h2), fun t' h => ?_, fun y h => ?_, fun t' h => ?_⟩
        · rw [List.map_append]
          exact Sto.set_get F4.cl (by show lbs _ (L3.map nI ++ [nI z]) = true; rw [lbs_append, nis_lb, lbs_cons, lb_int, lbs_nil]; rfl)
        · rw [htake] at h
          rcases List.mem_append.mp h with h | h
          · exact mono t' (t3 t' h)
          · rw [List.mem_singleton.mp h]
            exact ⟨setB_eq, z, hBz, .inr hz1⟩
        · rcases h with h | h
          · exact z3 y (.inl h)
          · rcases List.mem_append.mp h with h | h
            · exact z3 y (.inr h)
            · rw [List.mem_singleton.mp h]
              exact ⟨(K0.lt _ _ hBz).1, hZz⟩
        · rcases setB_cases h with rfl | h
          · exact ⟨x, setB_eq, htm⟩
          · exact m3 t' h
      · obtain ⟨km3, vm3, L3, M3, w9, rfl, F3, hl3, hs3, g3, t3, z3, m3⟩ := hI
        refine ⟨Its.ok_none, ?_⟩
        rw [show (Its.mk ((Gr S x).map nI) none).items.length = (Gr S x).length from List.length_map _] at hl3 t3
        rw [List.take_length] at t3
        have hgl := hGl x
        have hk2 := F3.dr.len
        have hdec : L3.length + (S.length + 1) * (S.length - kr2.length) + 1 ≤ m := by
          rw [show S.length - kr.length = (S.length - kr2.length) + 1 by omega, Nat.mul_succ] at hm
          omega
        refine ⟨m - 1, by omega, _, _, _, _, _, _, _, _, _, _, _, rfl, F3, ⟨fun y hy e => ?_, fun r t h1 h2 => ?_, z3, m3⟩, by omega, by omega⟩
        · rcases P.free y hy e with h | h
          · exact .inl (setB_mono h)
          · rcases List.mem_append.mp h with h | h
            · exact .inr (hs3 y h)
            · rw [List.mem_singleton.mp h]; exact .inl setB_eq
        · rcases setB_cases h1 with rfl | h1
          · exact t3 t h2
          · exact g3 r t h1 h2
      · obtain ⟨a, z, b, c⟩ := P.gm r t h1 h2
        refine ⟨a, z, b, ?_⟩
        rcases c with c | c
        · exact .inl (setB_mono c)
        · rcases List.mem_append.mp c with c | c
          · exact .inr c
          · rw [List.mem_singleton.mp c]; exact .inl setB_eq
      · rcases h with h | h
        · rcases setB_cases h with rfl | h
          · exact ⟨hxn, hxZ⟩
          · exact P.zr y (.inl h)
        · exact P.zr y (.inr (List.mem_append_left _ h))
      · obtain ⟨r, h1, h2⟩ := P.mr t h
        exact ⟨r, setB_mono h1, h2⟩
end DL

namespace DL
open PySem L2
local macro_rules | `(tactic| walk_at "go") => `(tactic| repeat (first | refine wp_mb ?_ | with_reducible refine wp_mul (by first | assumption | (exact okMul_iff.mpr (by omega))) ?_ | with_reducible refine wp_mod (by first | assumption | (exact okMod_iff.mpr (by omega))) ?_ | with_reducible refine wp_div (by first | assumption | (exact okDiv_iff.mpr (by omega))) ?_ | with_reducible refine wp_pow (by first | assumption | (exact okPow_iff.mpr (by decide))) ?_ | ((with_reducible refine wp_set ?_ ?_ ?_); (focus rfl); (focus first | exact tT_lb | exact lb_int _ _ | exact lb_bl _ _ | exact lb_non _ | assumption)) | refine wp_eq rfl ?_))
local macro_rules | `(tactic| walk_at "st") => `(tactic| ((first | (refine wp_seqK ?_; intro K hK) | skip); walk_at "go"))
local macro_rules | `(tactic| walk_at "nx") => `(tactic| ((try dsimp only [List.set_cons_zero, List.set_cons_succ]); refine wp_nx (by assumption) ?_; walk_at "st"))
local macro_rules | `(tactic| walk_at "nk") => `(tactic| ((try dsimp only [List.set_cons_zero, List.set_cons_succ]); refine wp_nx (by assumption) ?_))
/-! W6 of k11: least_orders -/
theorem wp_runK {n np : Nat} {d : DS} {args : List PV} {st : Sto} {Q : PV → Sto → Prop} (hl : args.length = np)
    (h : wp (d (args.map some ++ List.replicate (n - args.length) none) st) fun f s => match f with
      | .rt v => Q v s
      | .nx _ => Q .non s
      | _ => False) : wp (runK n np d args st) Q := by
  obtain ⟨f, s, e, h⟩ := h
  unfold runK
  rw [if_pos hl, e]
  cases f with
  | rt v => exact wp_ret h
  | nx e => exact wp_ret h
  | bk e => exact h.elim
  | ct e => exact h.elim
theorem gr_lb {m : Nat} (g : List (List Nat)) : lbs m (g.map fun r => PV.lst (r.map nI)) = true := lbs_map (fun r => by rw [lb_lst]; exact nis_lb r) g
theorem rows_lb {m : Nat} (S : List (List Int)) : lbs m (S.map tT) = true := lbs_map (fun _ => tT_lb) S
theorem least_wp {S : List (List Int)} {st : Sto} {Q : PV → Sto → Prop} (H : Srs S)
    (q : ∀ O P, judge S O P = true → (∀ o ∈ O, o.length ≤ 6) → O.length ≤ 64 → Q (.tup [.loc st.nxt, .loc (st.nxt + 1)]) ((st.alloc (.lst (O.map tT))).alloc (.lst (P.map tT)))) : wp (f_least_orders [rowsP S] st) Q := by
  have hn := H.ln
  have hgs : ∀ i, i < S.length → (graph S)[i]? = some (Gr S i) := fun i hi => by
    unfold graph
    rw [List.getElem?_map, List.getElem?_range hi]; rfl
  have hgl : (graph S).length = S.length := by unfold graph; rw [List.length_map, List.length_range]
  unfold f_least_orders
  refine wp_runK rfl ?_
  show wp (D_least_orders [some (rowsP S), none, none, none, none, none] st) _
  unfold D_least_orders
  refine wp_seqK ?_
  intro K hK
  walk_at "go"
  refine greater_wp (by omega) ?_
  refine wp_settle (settle_new (gr_lb _)) ?_
  walk_at "go"
  walk_at "nk"
  refine wp_seqK ?_
  intro K2 hK2
  walk_at "go"
  refine matching_wp (by omega) hgs hgl (fun s t h => Gr_lt h) fun A B ka va kb vb DA DB F => ?_
  refine wp_set rfl (by rw [lb_tup, lbs_cons, dki_lb DA, lbs_cons, dki_lb DB, lbs_nil]; rfl) ?_
  walk_at "go"
  walk_at "nk"
  have ho : ∀ k, ∃ o, k < S.length → (Along S A k o ∧ f_order_along [rowsP S, .dki ka va, nI k] st = some (tT o, st)) := fun k => by
    by_cases hk : k < S.length
    · obtain ⟨v, s, e, rfl, o, rfl, ha⟩ := along_wp (Q := fun v s => s = st ∧ ∃ o, v = tT o ∧ Along S A k o) (st := st) H DA F.mat hk fun o h => ⟨rfl, o, rfl, h⟩
      exact ⟨o, fun _ => ⟨ha, e⟩⟩
    · exact ⟨[], fun h => absurd h hk⟩
  obtain ⟨o, ho⟩ := Classical.axiomOfChoice ho
  refine wp_seqK ?_
  intro K3 hK3
  walk_at "go"
  rw [List.length_map]
  refine wp_pos (okR (by omega)) ?_
  walk_at "go"
  refine wp_eq (lc_at (its := ⟨rng 0 (S.length : Int), none⟩) Its.ok_none (fun k => (B k).isNone) (fun k => tT (o k)) (fun k x hx => ?_)) ?_
  · obtain ⟨hk, rfl⟩ := rng_at hx
    refine wp_eq rfl ⟨rfl, ?_⟩
    walk_at "go"
    rw [DB.at' k]
    refine ⟨rfl, ?_, fun _ => ?_⟩
    · cases B k <;> rfl
    · walk_at "go"
      refine wp_eq (ho k hk).2 ?_
      walk_at "go"
      exact ⟨rfl, rfl⟩
  rw [rng_len]
  have e1 : ((List.range S.length).filter fun k => (B k).isNone).map (fun k => tT (o k)) = (((List.range S.length).filter fun k => (B k).isNone).map o).map tT := by rw [List.map_map]; rfl
  rw [e1]
  have hl : (((List.range S.length).filter fun k => (B k).isNone).map o).length ≤ S.length := by
    rw [List.length_map]
    exact Nat.le_trans (List.length_filter_le _ _) (by rw [List.length_range]; exact Nat.le_refl _)
  refine wp_eq (mkM_eq (okL (by rw [List.length_map]; omega)) (rows_lb _)) ?_
  walk_at "go"
  walk_at "nk"
  walk_at "go"
  refine apart_wp hn hgs DA DB F fun R M HA => ?_
  rw [if_pos rfl]
  walk_at "go"
  refine q _ _ (least_judge H F.mat HA fun k hk hB => (ho k hk).1) (fun x hx => ?_) (by omega)
  obtain ⟨k, hk, rfl⟩ := List.mem_map.mp hx
  have := (ho k (List.mem_range.mp (List.mem_filter.mp hk).1)).1
  exact cols_len this.nd this.ok
end DL

namespace DL
open PySem L2
local macro_rules | `(tactic| walk_at "go") => `(tactic| repeat (first | refine wp_mb ?_ | with_reducible refine wp_mul (by first | assumption | (exact okMul_iff.mpr (by omega))) ?_ | with_reducible refine wp_mod (by first | assumption | (exact okMod_iff.mpr (by omega))) ?_ | with_reducible refine wp_div (by first | assumption | (exact okDiv_iff.mpr (by omega))) ?_ | with_reducible refine wp_pow (by first | assumption | (exact okPow_iff.mpr (by decide))) ?_ | ((with_reducible refine wp_set ?_ ?_ ?_); (focus rfl); (focus first | exact tT_lb | exact lb_int _ _ | exact lb_bl _ _ | exact lb_non _ | assumption)) | refine wp_eq rfl ?_))
local macro_rules | `(tactic| walk_at "st") => `(tactic| ((first | (refine wp_seqK ?_; intro K hK) | skip); walk_at "go"))
local macro_rules | `(tactic| walk_at "nx") => `(tactic| ((try dsimp only [List.set_cons_zero, List.set_cons_succ]); refine wp_nx (by assumption) ?_; walk_at "st"))
local macro_rules | `(tactic| walk_at "nk") => `(tactic| ((try dsimp only [List.set_cons_zero, List.set_cons_succ]); refine wp_nx (by assumption) ?_))
/-! W7 of k11: what shows_orders judges -/
def rowE : EqE (List Int) := EqE.int.tup
theorem cut_take {xs : List PV} {k : Nat} : cutP xs none (some (k : Int)) = xs.take k := by
  by_cases h : k ≤ xs.length
  · exact cut_to h
  · have e : cutP xs none (some (k : Int)) = cutP xs none (some (xs.length : Int)) := by
      unfold cutP
      rw [sIx_to, sIx_to, Nat.min_eq_right (by omega), Nat.min_self]
    rw [e, cut_to (Nat.le_refl _), List.take_length, List.take_of_length_le (by omega)]
theorem cutT_take {a : List Int} {k : Nat} : cutP (a.map PV.int) none (some (k : Int)) = (a.take k).map PV.int := by rw [cut_take, List.map_take]
theorem serves_eq {o s : List Int} {st : Sto} : f_serves [tT o, tT s] st = some (.bl (servB o s), st) := by
  unfold f_serves
  refine runF_eq rfl (lb_bl _ _) ?_
  show wp (D_serves [some (tT o), some (tT s), none] st) _
  unfold D_serves
  walk_at "st"
  rw [List.length_map, cutT_take]
  walk_at "nx"
  rw [List.length_map, List.length_map, eqv_int, eqN]
  unfold servB
  by_cases h : (o.take s.length).length = s.length
  · rw [decide_eq_true h]
    walk_at "go"
    refine wp_eq has_all_eq ?_
    walk_at "go"
    exact ⟨rfl, rfl⟩
  · rw [decide_eq_false h]
    walk_at "go"
    first | exact ⟨rfl, rfl⟩ | exact wp_ret ⟨rfl, rfl⟩
theorem cols_has (c : Int) : [(0 : Int), 1, 2, 3, 4, 5].contains c = (decide (0 ≤ c) && decide (c ≤ 5)) := by
  rw [Bool.eq_iff_iff, List.contains_iff_mem, Bool.and_eq_true, decide_eq_true_iff, decide_eq_true_iff]
  simp only [List.mem_cons, List.not_mem_nil, or_false]
  omega
theorem is_order_eq {o : List Int} {st : Sto} : f_is_order [tT o] st = some (.bl (ordB o), st) := by
  unfold f_is_order
  refine runF_eq rfl (lb_bl _ _) ?_
  show wp (D_is_order [some (tT o), none, none] st) _
  unfold D_is_order
  walk_at "go"
  have e : ordB o = (List.range (numb 0 (o.map PV.int)).length).all fun k => !badAt o k := by rw [numb_len, List.length_map]; rfl
  refine for_all_wp (its := ⟨numb 0 (o.map .int), none⟩) Its.ok_none false (fun env => ∃ u v, env = [some (tT o), u, v]) (fun k => !badAt o k) (fun k x env hx hI => ?_) ⟨none, none, rfl⟩ (fun h env hP => ?_) (fun h => ?_)
  · obtain ⟨u, v, rfl⟩ := hI
    obtain ⟨y, hy, rfl⟩ := numb_at hx
    obtain ⟨c, hc, _, rfl⟩ := get_map hy
    refine wp_eq rfl ?_
    walk_at "go"
    rw [show ([PV.int 0, PV.int 1, PV.int 2, PV.int 3, PV.int 4, PV.int 5].any fun z => eqP z (PV.int c)) = _ from (any_ints c [0, 1, 2, 3, 4, 5]).trans (cols_has c)]
    unfold badAt
    rw [getD_some hc]
    cases (decide (0 ≤ c) && decide (c ≤ 5)) with
    | false =>
      walk_at "go"
      refine ⟨rfl, ?_⟩
      rw [show (!((o.take k).contains c || !false)) = false by cases (o.take k).contains c <;> rfl, if_neg (by decide)]
    | true =>
      walk_at "go"
      rw [cutT_take]
      refine wp_eq (cmpIn_ints (s := o.take k) rfl) ?_
      cases (o.take k).contains c with
      | true =>
        walk_at "go"
        exact ⟨rfl, rfl⟩
      | false =>
        walk_at "go"
        exact ⟨rfl, _, rfl, _, _, rfl⟩
  · obtain ⟨u, v, rfl⟩ := hP
    walk_at "go"
    rw [e]
    exact ⟨by rw [h], rfl⟩
  · exact wp_ret ⟨congrArg (fun b => Fl.rt (.bl b)) (e.trans h).symm, rfl⟩
def apB2 (S P : List (List Int)) : Bool := (List.range P.length).all fun k => S.contains (P.getD k []) && (List.range P.length).all fun j => !(decide (j ≠ k) && has (P.getD k []) (P.getD j []))
theorem apB2_eq (S P : List (List Int)) : apB2 S P = apB S P := by
  rw [Bool.eq_iff_iff, apB_iff]
  unfold apB2
  rw [List.all_eq_true]
  constructor
  · intro h
    have h' : ∀ k (hk : k < P.length), P[k] ∈ S ∧ ∀ j (hj : j < P.length), j ≠ k → has P[k] P[j] = false := fun k hk => by
      have := h k (List.mem_range.mpr hk)
      rw [Bool.and_eq_true, List.all_eq_true, List.getD_eq_getElem?_getD, List.getElem?_eq_getElem hk, Option.getD_some] at this
      refine ⟨List.contains_iff_mem.mp this.1, fun j hj hjk => ?_⟩
      have := this.2 j (List.mem_range.mpr hj)
      rw [List.getD_eq_getElem?_getD, List.getElem?_eq_getElem hj, Option.getD_some, decide_eq_true hjk, Bool.true_and, Bool.not_eq_true'] at this
      exact this
    refine ⟨fun p hp => ?_, fun i j hi hj hij => (h' i hi).2 j hj (Ne.symm hij)⟩
    obtain ⟨k, hk, rfl⟩ := List.mem_iff_getElem.mp hp
    exact (h' k hk).1
  · rintro ⟨h1, h2⟩ k hk
    have hk := List.mem_range.mp hk
    rw [Bool.and_eq_true, List.all_eq_true, List.getD_eq_getElem?_getD, List.getElem?_eq_getElem hk, Option.getD_some]
    refine ⟨List.contains_iff_mem.mpr (h1 _ (List.getElem_mem hk)), fun j hj => ?_⟩
    have hj := List.mem_range.mp hj
    rw [List.getD_eq_getElem?_getD, List.getElem?_eq_getElem hj, Option.getD_some]
    by_cases e : j = k
    · rw [decide_eq_false (fun h => h e)]; rfl
    · rw [h2 k j hk hj (Ne.symm e), Bool.and_false]; rfl
theorem in_rows {neg : Bool} {p : List Int} {S : List (List Int)} {y : PV} {st : Sto} (h : lstOf st y = some (S.map tT)) : cmpIn neg (tT p) y st = some (.bl (S.contains p != neg), st) := by
  have := rowE.cmpIn (neg := neg) (a := p) (l := S) (y := y) (st := st) h rfl (by decide)
  refine Eq.trans this ?_
  have e : ∀ (i : Decidable (p ∈ S)), @decide (p ∈ S) i = S.contains p := fun i => by
    by_cases h : p ∈ S
    · rw [List.contains_iff_mem.mpr h]
      exact @decide_eq_true _ i h
    · rw [show S.contains p = false from Bool.eq_false_iff.mpr fun h2 => h (List.contains_iff_mem.mp h2)]
      exact @decide_eq_false _ i h
  rw [e]
theorem are_apart_eq {S P : List (List Int)} {st : Sto} : f_are_apart [rowsP S, rowsP P] st = some (.bl (apB S P), st) := by
  unfold f_are_apart
  refine runF_eq rfl (lb_bl _ _) ?_
  show wp (D_are_apart [some (rowsP S), some (rowsP P), none, none, none, none] st) _
  unfold D_are_apart
  walk_at "go"
  have e : apB S P = (List.range (numb 0 (P.map tT)).length).all fun k => S.contains (P.getD k []) && (List.range P.length).all fun j => !(decide (j ≠ k) && has (P.getD k []) (P.getD j [])) := by rw [← apB2_eq, numb_len, List.length_map]; rfl
  refine for_all_wp (its := ⟨numb 0 (P.map tT), none⟩) Its.ok_none false (fun env => ∃ u2 u3 u4 u5, env = [some (rowsP S), some (rowsP P), u2, u3, u4, u5]) (fun k => S.contains (P.getD k []) && (List.range P.length).all fun j => !(decide (j ≠ k) && has (P.getD k []) (P.getD j []))) (fun k x env hx hI => ?_) ⟨_, _, _, _, rfl⟩ (fun h env hP => ?_) (fun h => ?_)
  · obtain ⟨u2, u3, u4, u5, rfl⟩ := hI
    obtain ⟨y, hy, rfl⟩ := numb_at hx
    obtain ⟨p, hp, _, rfl⟩ := get_map hy
    rw [getD_some hp]
    refine wp_eq rfl ?_
    walk_at "go"
    refine wp_eq (in_rows rfl) ?_
    cases S.contains p with
    | false =>
      walk_at "go"
      exact ⟨rfl, rfl⟩
    | true =>
      walk_at "go"
      have el : (numb 0 (P.map tT)).length = P.length := by rw [numb_len, List.length_map]
      refine for_all_wp (its := ⟨numb 0 (P.map tT), none⟩) Its.ok_none false (fun env => ∃ u4 u5, env = [some (rowsP S), some (rowsP P), some (.int (k : Int)), some (tT p), u4, u5]) (fun j => !(decide (j ≠ k) && has p (P.getD j []))) (fun j x env hx hI => ?_) ⟨_, _, rfl⟩ (fun h env hP => ?_) (fun h => ?_)
      · obtain ⟨u4, u5, rfl⟩ := hI
        obtain ⟨y, hy, rfl⟩ := numb_at hx
        obtain ⟨o, ho, _, rfl⟩ := get_map hy
        rw [getD_some ho]
        refine wp_eq rfl ?_
        walk_at "go"
        rw [eqv_int, eqN]
        by_cases e : j = k
        · subst e
          rw [decide_eq_true rfl, decide_eq_false (fun h => h rfl)]
          walk_at "go"
          exact ⟨rfl, _, rfl, _, _, rfl⟩
        · rw [decide_eq_false e, decide_eq_true (show j ≠ k from e)]
          walk_at "go"
          refine wp_eq has_all_eq ?_
          walk_at "go"
          cases has p o with
          | true =>
            walk_at "go"
            exact ⟨rfl, rfl⟩
          | false =>
            walk_at "go"
            exact ⟨rfl, _, rfl, _, _, rfl⟩
      · obtain ⟨u4, u5, rfl⟩ := hP
        rw [el] at h
        refine ⟨rfl, ?_⟩
        rw [h, Bool.true_and, if_pos rfl]
        exact ⟨_, rfl, _, _, _, _, rfl⟩
      · rw [el] at h
        refine ⟨rfl, ?_⟩
        rw [h, Bool.true_and, if_neg (by decide)]
  · obtain ⟨u2, u3, u4, u5, rfl⟩ := hP
    walk_at "go"
    rw [e]
    exact ⟨by rw [h], rfl⟩
  · exact wp_ret ⟨congrArg (fun b => Fl.rt (.bl b)) (e.trans h).symm, rfl⟩
theorem blsOf_map : ∀ l : List Bool, blsOf (l.map .bl) = some l
  | [] => rfl
  | b :: l => by
    show (blsOf (l.map .bl)).map (b :: ·) = _
    rw [blsOf_map l]; rfl
theorem any_eq (l : List Bool) {st : Sto} : bAny [.lst (l.map .bl)] st = some (.bl (l.any id), st) := by
  show (match blsOf (l.map .bl) with | some bs => some (PV.bl (bs.any id), st) | none => none) = _
  rw [blsOf_map]
theorem shows_eq {S O P : List (List Int)} {st : Sto} (hO : O.length ≤ 1000) : f_shows_orders [rowsP S, rowsP O, rowsP P] st = some (.bl (judge S O P), st) := by
  unfold f_shows_orders
  refine runF_eq rfl (lb_bl _ _) ?_
  show wp (D_shows_orders [some (rowsP S), some (rowsP O), some (rowsP P), none, none] st) _
  unfold D_shows_orders
  refine wp_seqK ?_
  intro K hK
  walk_at "go"
  have e1 : O.all ordB = (List.range (O.map tT).length).all fun k => ordB (O.getD k []) := by rw [List.length_map, all_range O []]
  refine for_all_wp (its := ⟨O.map tT, none⟩) Its.ok_none false (fun env => ∃ u3 u4, env = [some (rowsP S), some (rowsP O), some (rowsP P), u3, u4]) (fun k => ordB (O.getD k [])) (fun k x env hx hI => ?_) ⟨_, _, rfl⟩ (fun h env hP => ?_) (fun h => ?_)
  · obtain ⟨u3, u4, rfl⟩ := hI
    obtain ⟨o, ho, _, rfl⟩ := get_map hx
    rw [getD_some ho]
    refine wp_eq rfl ?_
    walk_at "go"
    refine wp_eq is_order_eq ?_
    walk_at "go"
    cases ordB o with
    | true =>
      walk_at "go"
      exact ⟨rfl, _, rfl, _, _, rfl⟩
    | false =>
      walk_at "go"
      exact ⟨rfl, rfl⟩
  · obtain ⟨u3, u4, rfl⟩ := hP
    rw [← e1] at h
    walk_at "nk"
    refine wp_seqK ?_
    intro K2 hK2
    walk_at "go"
    have e2 : (S.all fun s => O.any fun o => servB o s) = (List.range (S.map tT).length).all fun k => O.any fun o => servB o (S.getD k []) := by rw [List.length_map, all_range S [] fun s => O.any fun o => servB o s]
    refine for_all_wp (its := ⟨S.map tT, none⟩) Its.ok_none false (fun env => ∃ u3 u4, env = [some (rowsP S), some (rowsP O), some (rowsP P), u3, u4]) (fun k => O.any fun o => servB o (S.getD k [])) (fun k x env hx hI => ?_) ⟨_, _, rfl⟩ (fun h2 env hP => ?_) (fun h2 => ?_)
    · obtain ⟨u3, u4, rfl⟩ := hI
      obtain ⟨s, hs, _, rfl⟩ := get_map hx
      rw [getD_some hs]
      refine wp_eq rfl ?_
      walk_at "go"
      refine wp_eq (lc_items (its := ⟨O.map tT, none⟩) ((O.map fun o => servB o s).map .bl) Its.ok_none (by rw [List.length_map, List.length_map]; exact (List.length_map _).symm) (fun j x hx => ?_)) ?_
      · obtain ⟨o, ho, _, rfl⟩ := get_map hx
        refine ⟨_, .bl (servB o s), rfl, ?_, ?_⟩
        · rw [List.map_map, List.getElem?_map, ho]; rfl
        · refine eq_of_wp ?_
          walk_at "go"
          refine wp_eq serves_eq ?_
          walk_at "go"
          exact ⟨rfl, rfl⟩
      refine wp_eq (mkV_eq (okL (by rw [List.length_map, List.length_map]; omega))) ?_
      walk_at "go"
      refine wp_eq (any_eq _) ?_
      rw [List.any_map]
      rw [show (O.any (id ∘ fun o => servB o s)) = O.any fun o => servB o s from rfl]
      cases (O.any fun o => servB o s) with
      | true =>
        walk_at "go"
        exact ⟨rfl, _, rfl, _, _, rfl⟩
      | false =>
        walk_at "go"
        exact ⟨rfl, rfl⟩
    · obtain ⟨u3, u4, rfl⟩ := hP
      rw [← e2] at h2
      walk_at "nk"
      walk_at "go"
      refine wp_eq are_apart_eq ?_
      walk_at "go"
      unfold judge
      rw [h, h2, Bool.true_and, Bool.true_and]
      cases apB S P with
      | true =>
        walk_at "go"
        rw [List.length_map, List.length_map, eqv_int, eqN]
        exact ⟨by cases decide (O.length = P.length) <;> rfl, rfl⟩
      | false =>
        walk_at "go"
        first | exact ⟨rfl, rfl⟩ | exact wp_ret ⟨rfl, rfl⟩
    · rw [← e2] at h2
      refine wp_ret ⟨?_, rfl⟩
      unfold judge
      rw [h2, Bool.and_false]
      rfl
  · rw [← e1] at h
    refine wp_ret ⟨?_, rfl⟩
    unfold judge
    rw [h]
    rfl
end DL

namespace DL
open PySem L2
local macro_rules | `(tactic| walk_at "go") => `(tactic| repeat (first | refine wp_mb ?_ | with_reducible refine wp_mul (by first | assumption | (exact okMul_iff.mpr (by omega))) ?_ | with_reducible refine wp_mod (by first | assumption | (exact okMod_iff.mpr (by omega))) ?_ | with_reducible refine wp_div (by first | assumption | (exact okDiv_iff.mpr (by omega))) ?_ | with_reducible refine wp_pow (by first | assumption | (exact okPow_iff.mpr (by decide))) ?_ | ((with_reducible refine wp_set ?_ ?_ ?_); (focus rfl); (focus first | exact tT_lb | exact lb_int _ _ | exact lb_bl _ _ | exact lb_non _ | assumption)) | refine wp_eq rfl ?_))
local macro_rules | `(tactic| walk_at "st") => `(tactic| ((first | (refine wp_seqK ?_; intro K hK) | skip); walk_at "go"))
local macro_rules | `(tactic| walk_at "nx") => `(tactic| ((try dsimp only [List.set_cons_zero, List.set_cons_succ]); refine wp_nx (by assumption) ?_; walk_at "st"))
local macro_rules | `(tactic| walk_at "nk") => `(tactic| ((try dsimp only [List.set_cons_zero, List.set_cons_succ]); refine wp_nx (by assumption) ?_))
/-! W8 of k11: what the law judges -/
theorem all_contains {α : Type} (f : α → Bool) : ∀ l : List α, ((l.map f).contains false != true) = l.all f
  | [] => rfl
  | x :: l => by
    have := all_contains f l
    rw [List.map_cons, List.contains_cons, List.all_cons, ← this]
    cases f x <;> cases (l.map f).contains false <;> rfl
theorem any_contains {α : Type} (f : α → Bool) : ∀ l : List α, (l.map f).contains true = l.any f
  | [] => rfl
  | x :: l => by
    have := any_contains f l
    rw [List.map_cons, List.contains_cons, List.any_cons, ← this]
    cases f x <;> rfl
theorem law_holds_eq {a b : List Int} {st : Sto} (hb : b.length ≤ 1000) : f_law_holds [tT a, tT b] st = some (.bl (has a b), st) := by
  unfold f_law_holds
  refine runF_eq rfl (lb_bl _ _) ?_
  show wp (D_law_holds [some (tT a), some (tT b), none] st) _
  unfold D_law_holds
  walk_at "go"
  refine wp_eq (lc_items (its := ⟨b.map .int, none⟩) ((b.map fun c => a.contains c).map .bl) Its.ok_none (by rw [List.length_map, List.length_map]; exact (List.length_map _).symm) (fun j x hx => ?_)) ?_
  · obtain ⟨c, hc, _, rfl⟩ := get_map hx
    refine ⟨_, .bl (a.contains c), rfl, ?_, ?_⟩
    · rw [List.map_map, List.getElem?_map, hc]; rfl
    · refine eq_of_wp ?_
      walk_at "go"
      refine wp_eq cmpIn_tT ?_
      exact ⟨by cases a.contains c <;> rfl, rfl⟩
  refine wp_eq (mkV_eq (okL (by rw [List.length_map, List.length_map]; omega))) ?_
  walk_at "go"
  refine wp_eq (cmpIn_bls (s := b.map fun c => a.contains c) rfl) ?_
  rw [all_contains]
  walk_at "go"
  exact ⟨rfl, rfl⟩
theorem leP_ints (x y : Int) : leP (.int x) (.int y) = decide (x ≤ y) := by
  have e : leP (.int x) (.int y) = !PySem.W.dataLt (.int y) (.int x) := by
    unfold leP
    rw [PV.toD, PV.toD]
  rw [e, PySem.W.dataLt_int]
  by_cases h : x ≤ y
  · rw [decide_eq_true h, decide_eq_false (by omega)]; rfl
  · rw [decide_eq_false h, decide_eq_true (by omega)]; rfl
theorem sortGo_ints {m : Bool} {a : List Int} {st : Sto} (h : a.length ≤ 1000000) : sortGo m (a.map .int) st = mkL m ((sortI a).map .int) st := by
  unfold sortGo
  rw [toDs_ints]
  have ok : okSort (a.map PyData.int) = true := by
    rw [okSort_iff]
    refine ⟨fun d hd d' hd' => ?_, .inr fun d hd => ?_, by rw [List.length_map]; exact okL h, fun d hd => ?_⟩
    · obtain ⟨x, _, rfl⟩ := List.mem_map.mp hd
      obtain ⟨y, _, rfl⟩ := List.mem_map.mp hd'
      rfl
    · obtain ⟨x, _, rfl⟩ := List.mem_map.mp hd
      exact ⟨fun e => (by cases e), fun xs e => (by cases e)⟩
    · obtain ⟨x, _, rfl⟩ := List.mem_map.mp hd
      rw [PyData.depth]
      exact Nat.zero_le _
  show (if okSort (a.map PyData.int) then mkL m ((a.map PV.int).mergeSort leP) st else none) = _
  rw [if_pos ok]
  have e : (a.map PV.int).mergeSort leP = (sortI a).map PV.int := by
    unfold sortI
    exact (List.map_mergeSort fun x _ y _ => (leP_ints x y).symm).symm
  rw [e]
theorem sorted_tT {m : Bool} {a : List Int} {st : Sto} (h : a.length ≤ 1000000) : bSorted m [tT a] st = mkL m ((sortI a).map .int) st := sortGo_ints h
theorem sortI_perm (a : List Int) : (sortI a).Perm a := List.mergeSort_perm _ _
theorem sorted_serv {o s : List Int} (hs : s.Pairwise (· < ·)) : decide (sortI (o.take s.length) = s) = servB o s := by
  have hnd : s.Nodup := hs.imp fun h => by omega
  rw [Bool.eq_iff_iff, decide_eq_true_iff, serv_iff]
  constructor
  · intro e
    have hp := sortI_perm (o.take s.length)
    rw [e] at hp
    exact ⟨hp.length_eq.symm, fun c hc => hp.mem_iff.mp hc⟩
  · rintro ⟨h1, h2⟩
    refine (sortI_uniq ?_ (hs.imp fun h => by omega)).symm
    refine (List.perm_ext_iff_of_nodup hnd ?_).mpr fun c => ⟨h2 c, fun hc => nodup_back hnd h2 (by omega) hc⟩
    refine List.pairwise_iff_getElem.mpr fun i j hi hj hij e => ?_
    have := nodup_len (a := s) (b := (o.take s.length).eraseIdx j) hnd fun c hc => by
      obtain ⟨k, hk, rfl⟩ := List.mem_iff_getElem.mp (h2 c hc)
      by_cases q : k = j
      · subst q
        rw [← e]
        rw [List.mem_eraseIdx_iff_getElem]
        exact ⟨i, hi, by omega, rfl⟩
      · rw [List.mem_eraseIdx_iff_getElem]
        exact ⟨k, hk, q, rfl⟩
    rw [List.length_eraseIdx_of_lt hj] at this
    omega
theorem not_any {α : Type} (f : α → Bool) (l : List α) : (l.all fun x => !f x) = !l.any f := by
  induction l with
  | nil => rfl
  | cons x l ih => rw [List.all_cons, List.any_cons, ih]; cases f x <;> rfl
theorem law_served_eq {s : List Int} {O : List (List Int)} {v : PV} {st : Sto} (hv : lstOf st v = some (O.map tT)) (hs : s.Pairwise (· < ·)) (hl : s.length ≤ 1000) : f_law_served [tT s, v] st = some (.bl (O.any fun o => servB o s), st) := by
  unfold f_law_served
  refine runF_eq rfl (lb_bl _ _) ?_
  show wp (D_law_served [some (tT s), some v, none] st) _
  unfold D_law_served
  obtain ⟨src, hi, hok⟩ := itsOf_lst hv
  refine wp_seqK ?_
  intro K hK
  walk_at "go"
  refine wp_eq hi ?_
  have e : (O.all fun o => !servB o s) = (List.range (O.map tT).length).all fun k => !servB (O.getD k []) s := by rw [List.length_map, all_range O [] fun o => !servB o s]
  refine for_all_wp (its := ⟨O.map tT, src⟩) (hok st fun _ _ => rfl) true (fun env => ∃ u, env = [some (tT s), some v, u]) (fun k => !servB (O.getD k []) s) (fun k x env hx hI => ?_) ⟨_, rfl⟩ (fun h env hP => ?_) (fun h => ?_)
  · obtain ⟨u, rfl⟩ := hI
    obtain ⟨o, ho, _, rfl⟩ := get_map hx
    rw [getD_some ho]
    refine wp_eq rfl ?_
    walk_at "go"
    rw [List.length_map, cutT_take]
    refine wp_eq ((sorted_tT (a := o.take s.length) (by rw [List.length_take]; omega)).trans (mkV_eq (okL (by rw [List.length_map, (sortI_perm _).length_eq, List.length_take]; omega)))) ?_
    walk_at "go"
    refine wp_eq (bList_v rfl (by rw [List.length_map]; omega)) ?_
    walk_at "go"
    refine wp_eq (EqE.int.list.cmpEq (a := sortI (o.take s.length)) (b := s) rfl rfl (by decide)) ?_
    rw [sorted_serv hs]
    cases servB o s with
    | true =>
      walk_at "go"
      exact ⟨rfl, rfl⟩
    | false =>
      walk_at "go"
      exact ⟨rfl, _, rfl, _, rfl⟩
  · obtain ⟨u, rfl⟩ := hP
    rw [← e, not_any] at h
    walk_at "nk"
    walk_at "go"
    refine ⟨?_, rfl⟩
    rw [show (O.any fun o => servB o s) = false by simpa using h]
  · rw [← e, not_any] at h
    refine wp_ret ⟨?_, rfl⟩
    rw [show (O.any fun o => servB o s) = true by simpa using h]
theorem slc {m : Bool} {v : PV} {xs : List PV} {l h : Option Int} {st : Sto} (hv : lstOf st v = some xs) : (match (generalizing := false) v with
  | .tup xs => some (.tup (cutP xs l h), st)
  | x => match lstOf st x with
    | some xs => mkL m (cutP xs l h) st
    | none => none) = mkL m (cutP xs l h) st := by
  cases v with
  | tup ys => cases hv
  | lst ys => cases hv; rfl
  | loc j =>
    show (match lstOf st (.loc j) with | some xs => mkL m (cutP xs l h) st | none => none) = _
    rw [hv]
  | _ => cases hv
theorem lst_len {v : PV} {xs : List PV} {st : Sto} (hv : lstOf st v = some xs) : bLen [v] st = some (.int xs.length, st) := seq_len (seq_lst hv)
theorem law_judged_eq {S O P : List (List Int)} {v1 v2 : PV} {st : Sto} (hS : ∀ s ∈ S, s.Pairwise (· < ·) ∧ s.length ≤ 1000) (hSz : S.length ≤ 1000) (h1 : lstOf st v1 = some (O.map tT)) (h2 : lstOf st v2 = some (P.map tT))
    (hO : ∀ o ∈ O, o.length ≤ 1000) (hPz : P.length ≤ 1000) (hP : ∀ p ∈ P, p.length ≤ 1000) : f_law_judged [rowsP S, v1, v2] st = some (.bl (judge S O P), st) := by
  unfold f_law_judged
  refine runF_eq rfl (lb_bl _ _) ?_
  show wp (D_law_judged [some (rowsP S), some v1, some v2, none, none, none, none] st) _
  unfold D_law_judged
  obtain ⟨src, hi, hok⟩ := itsOf_lst h1
  refine wp_seqK ?_
  intro K hK
  walk_at "go"
  refine wp_eq hi ?_
  have e1 : O.all ordB = (List.range (O.map tT).length).all fun k => ordB (O.getD k []) := by rw [List.length_map, all_range O []]
  refine for_all_wp (its := ⟨O.map tT, src⟩) (hok st fun _ _ => rfl) false (fun env => ∃ u3 u4 u5 u6, env = [some (rowsP S), some v1, some v2, u3, u4, u5, u6]) (fun k => ordB (O.getD k [])) (fun k x env hx hI => ?_) ⟨_, _, _, _, rfl⟩ (fun h env hE => ?_) (fun h => ?_)
  · obtain ⟨u3, u4, u5, u6, rfl⟩ := hI
    obtain ⟨o, ho, hom, rfl⟩ := get_map hx
    rw [getD_some ho]
    have hol := hO o hom
    refine wp_eq rfl ?_
    walk_at "go"
    rw [List.length_map]
    refine wp_pos (okR (by omega)) ?_
    walk_at "go"
    refine wp_eq (lc_at (its := ⟨rng 0 (o.length : Int), none⟩) Its.ok_none (fun _ => true) (fun j => .bl (badAt o j)) (fun j x hx => ?_)) ?_
    · obtain ⟨hj, rfl⟩ := rng_at hx
      refine wp_eq rfl ⟨rfl, wp_eq rfl ⟨rfl, rfl, fun _ => ?_⟩⟩
      unfold badAt
      rw [List.getD_eq_getElem?_getD, List.getElem?_eq_getElem hj, Option.getD_some]
      walk_at "go"
      rw [tup_nat rfl hj]
      walk_at "go"
      rw [cutT_take]
      refine wp_eq (cmpIn_ints (s := o.take j) rfl) ?_
      cases (o.take j).contains o[j] with
      | true =>
        walk_at "go"
        first | exact ⟨rfl, rfl⟩ | exact wp_ret ⟨rfl, rfl⟩
      | false =>
        walk_at "go"
        rw [tup_nat rfl hj]
        walk_at "go"
        dsimp only
        cases decide ((0 : Int) ≤ o[j]) with
        | false =>
          walk_at "go"
          first | exact ⟨rfl, rfl⟩ | exact wp_ret ⟨rfl, rfl⟩
        | true =>
          walk_at "go"
          first | exact ⟨rfl, rfl⟩ | exact wp_ret ⟨rfl, rfl⟩
    rw [rng_len, filter_all]
    refine wp_eq (mkV_eq (okL (by rw [List.length_map, List.length_range]; omega))) ?_
    walk_at "go"
    refine wp_eq (cmpIn_bls (s := (List.range o.length).map fun j => badAt o j) (by rw [List.map_map]; rfl)) ?_
    rw [any_contains]
    have : ordB o = !(List.range o.length).any fun j => badAt o j := not_any _ _
    rw [this]
    cases (List.range o.length).any fun j => badAt o j with
    | false =>
      walk_at "go"
      exact ⟨rfl, _, rfl, _, _, _, _, rfl⟩
    | true =>
      walk_at "go"
      exact ⟨rfl, rfl⟩
  · obtain ⟨u3, u4, u5, u6, rfl⟩ := hE
    rw [← e1] at h
    walk_at "nk"
    refine wp_seqK ?_
    intro K2 hK2
    walk_at "go"
    refine wp_eq (lc_items (its := ⟨S.map tT, none⟩) ((S.map fun s => O.any fun o => servB o s).map .bl) Its.ok_none (by rw [List.length_map, List.length_map]; exact (List.length_map _).symm) (fun j x hx => ?_)) ?_
    · obtain ⟨s, hs, hsm, rfl⟩ := get_map hx
      refine ⟨_, .bl (O.any fun o => servB o s), rfl, ?_, ?_⟩
      · rw [List.map_map, List.getElem?_map, hs]; rfl
      · refine eq_of_wp ?_
        walk_at "go"
        refine wp_eq (law_served_eq h1 (hS s hsm).1 (hS s hsm).2) ?_
        walk_at "go"
        exact ⟨rfl, rfl⟩
    refine wp_eq (mkV_eq (okL (by rw [List.length_map, List.length_map]; omega))) ?_
    walk_at "go"
    refine wp_eq (cmpIn_bls (s := S.map fun s => O.any fun o => servB o s) rfl) ?_
    have e2 := all_contains (fun s => O.any fun o => servB o s) S
    have hjj : judge S O P = (((S.map fun s => O.any fun o => servB o s).contains false != true) && apB S P && decide (O.length = P.length)) := by
      unfold judge
      rw [h, Bool.true_and, ← e2]
    cases e4 : (S.map fun s => O.any fun o => servB o s).contains false with
    | true =>
      rw [e4] at hjj
      walk_at "go"
      have : (Fl.rt (PV.bl false)) = Fl.rt (PV.bl (judge S O P)) := by rw [hjj]; rfl
      first | exact ⟨this, rfl⟩ | exact wp_ret ⟨this, rfl⟩
    | false =>
      rw [e4] at hjj
      have hjj : judge S O P = (apB S P && decide (O.length = P.length)) := hjj
      walk_at "go"
      walk_at "nk"
      refine wp_seqK ?_
      intro K3 hK3
      walk_at "go"
      refine wp_eq (lst_len h2) ?_
      rw [List.length_map]
      walk_at "go"
      refine wp_pos (okR (by omega)) ?_
      walk_at "go"
      have e3 : apB S P = (List.range (rng 0 (P.length : Int)).length).all fun k => apAt S P k := by rw [rng_len]; rfl
      refine for_all_wp (its := ⟨rng 0 (P.length : Int), none⟩) Its.ok_none false (fun env => ∃ u3 u4 u5 u6, env = [some (rowsP S), some v1, some v2, u3, u4, u5, u6]) (fun k => apAt S P k) (fun k x env hx hI => ?_) ⟨_, _, _, _, rfl⟩ (fun h3 env hE => ?_) (fun h3 => ?_)
      · obtain ⟨u3, u4, u5, u6, rfl⟩ := hI
        obtain ⟨hk, rfl⟩ := rng_at hx
        have hpk : opIx v2 (.int (k : Int)) st = some (tT P[k], st) := seq_ix (seq_lst h2) (atI_nat (by rw [List.getElem?_map, List.getElem?_eq_getElem hk]; rfl))
        have hq : apAt S P k = (S.contains P[k] && (P.take k).all fun q => !(has P[k] q || has q P[k])) := by
          unfold apAt
          rw [List.getD_eq_getElem?_getD, List.getElem?_eq_getElem hk, Option.getD_some]
        refine wp_eq rfl ?_
        refine wp_seqK ?_
        intro K4 hK4
        walk_at "go"
        refine wp_eq hpk ?_
        walk_at "go"
        refine wp_eq (in_rows rfl) ?_
        cases e5 : S.contains P[k] with
        | false =>
          rw [e5, Bool.false_and] at hq
          walk_at "go"
          refine ⟨rfl, ?_⟩
          rw [hq]
          rfl
        | true =>
          rw [e5, Bool.true_and, not_any] at hq
          walk_at "go"
          walk_at "nk"
          walk_at "go"
          refine wp_eq ((slc (l := none) (h := some (k : Int)) h2).trans (mkV_eq (okL (by rw [cut_take, List.length_take, List.length_map]; omega)))) ?_
          rw [cut_take, ← List.map_take]
          walk_at "go"
          refine wp_eq (lc_items (its := ⟨(P.take k).map tT, none⟩) (((P.take k).map fun q => has P[k] q || has q P[k]).map .bl) Its.ok_none (by rw [List.length_map, List.length_map]; exact (List.length_map _).symm) (fun j x hx => ?_)) ?_
          · obtain ⟨p, hp, hpm, rfl⟩ := get_map hx
            refine ⟨_, .bl (has P[k] p || has p P[k]), rfl, ?_, ?_⟩
            · rw [List.map_map, List.getElem?_map, hp]; rfl
            · refine eq_of_wp ?_
              walk_at "go"
              refine wp_eq hpk ?_
              walk_at "go"
              refine wp_eq (law_holds_eq (hP p (List.mem_of_mem_take hpm))) ?_
              walk_at "go"
              cases has P[k] p with
              | true =>
                walk_at "go"
                first | exact ⟨rfl, rfl⟩ | exact wp_ret ⟨rfl, rfl⟩
              | false =>
                walk_at "go"
                refine wp_eq hpk ?_
                walk_at "go"
                refine wp_eq (law_holds_eq (hP _ (List.getElem_mem hk))) ?_
                walk_at "go"
                first | exact ⟨rfl, rfl⟩ | exact wp_ret ⟨rfl, rfl⟩
          refine wp_eq (mkV_eq (okL (by rw [List.length_map, List.length_map, List.length_take]; omega))) ?_
          walk_at "go"
          refine wp_eq (cmpIn_bls (s := (P.take k).map fun q => has P[k] q || has q P[k]) rfl) ?_
          rw [any_contains, hq]
          cases (P.take k).any fun q => has P[k] q || has q P[k] with
          | false =>
            walk_at "go"
            exact ⟨rfl, _, rfl, _, _, _, _, rfl⟩
          | true =>
            walk_at "go"
            exact ⟨rfl, rfl⟩
      · obtain ⟨u3, u4, u5, u6, rfl⟩ := hE
        rw [← e3] at h3
        walk_at "nk"
        walk_at "go"
        refine wp_eq (lst_len h1) ?_
        walk_at "go"
        refine wp_eq (lst_len h2) ?_
        walk_at "go"
        rw [List.length_map, List.length_map, eqv_int, eqN]
        exact ⟨by rw [hjj, h3]; cases decide (O.length = P.length) <;> rfl, rfl⟩
      · rw [← e3] at h3
        exact wp_ret ⟨by rw [hjj, h3]; rfl, rfl⟩
  · rw [← e1] at h
    unfold judge
    rw [h]
    exact wp_ret ⟨rfl, rfl⟩
end DL

namespace DL
open PySem L2
local macro_rules | `(tactic| walk_at "go") => `(tactic| repeat (first | refine wp_mb ?_ | with_reducible refine wp_mul (by first | assumption | (exact okMul_iff.mpr (by omega))) ?_ | with_reducible refine wp_mod (by first | assumption | (exact okMod_iff.mpr (by omega))) ?_ | with_reducible refine wp_div (by first | assumption | (exact okDiv_iff.mpr (by omega))) ?_ | with_reducible refine wp_pow (by first | assumption | (exact okPow_iff.mpr (by decide))) ?_ | ((with_reducible refine wp_set ?_ ?_ ?_); (focus rfl); (focus first | exact tT_lb | exact lb_int _ _ | exact lb_bl _ _ | exact lb_non _ | assumption)) | refine wp_eq rfl ?_))
local macro_rules | `(tactic| walk_at "st") => `(tactic| ((first | (refine wp_seqK ?_; intro K hK) | skip); walk_at "go"))
local macro_rules | `(tactic| walk_at "nx") => `(tactic| ((try dsimp only [List.set_cons_zero, List.set_cons_succ]); refine wp_nx (by assumption) ?_; walk_at "st"))
local macro_rules | `(tactic| walk_at "nk") => `(tactic| ((try dsimp only [List.set_cons_zero, List.set_cons_succ]); refine wp_nx (by assumption) ?_))
/-! W9 of k11: kinds, what is shown, what is spoilt -/
theorem plain_rows {L : List (List Int)} {d : Nat} (h : ∀ q ∈ L, q.length ≤ 1000000) (hz : L.length ≤ 1000000) : plainP (d + 2) (.lst (L.map tT)) = true := by
  show (decide ((L.map tT).length ≤ 1000000) && (L.map tT).all (plainP (d + 1))) = true
  rw [List.length_map, decide_eq_true hz, Bool.true_and, List.all_map, List.all_eq_true]
  exact fun q hq => plain_tT (h q hq)
theorem law_kinds_eq {X Y : List (List Int)} {x y : PV} {st : Sto} (hx : lstOf st x = some (X.map tT)) (hy : lstOf st y = some (Y.map tT)) (zX : X.length ≤ 1000) (zY : Y.length ≤ 1000) (rX : ∀ r ∈ X, r.length ≤ 1000) (rY : ∀ r ∈ Y, r.length ≤ 1000) :
    f_law_kinds [.tup [x, y]] st = some (.bl true, st) := by
  unfold f_law_kinds
  refine runF_eq rfl (lb_bl _ _) ?_
  show wp (D_law_kinds [some (.tup [x, y]), none, none, none] st) _
  unfold D_law_kinds
  walk_at "st"
  walk_at "nk"
  refine wp_seqK ?_
  intro K hK
  walk_at "go"
  refine for_all_wp (its := ⟨[x, y], none⟩) Its.ok_none false (fun env => ∃ u1 u2 u3, env = [some (.tup [x, y]), u1, u2, u3]) (fun _ => true) (fun k z env hz hI => ?_) ⟨_, _, _, rfl⟩ (fun h env hP => ?_) (fun h => ?_)
  · obtain ⟨u1, u2, u3, rfl⟩ := hI
    have hZ : ∃ Z : List (List Int), lstOf st z = some (Z.map tT) ∧ Z.length ≤ 1000 ∧ ∀ r ∈ Z, r.length ≤ 1000 := by
      have hz : [x, y][k]? = some z := hz
      match k, hz with
      | 0, h => cases h; exact ⟨X, hx, zX, rX⟩
      | 1, h => cases h; exact ⟨Y, hy, zY, rY⟩
    obtain ⟨Z, hz2, zZ, rZ⟩ := hZ
    obtain ⟨f1, f2, f3, f4⟩ := lst_facts (derf_of_lst hz2)
    obtain ⟨src, hi, hok⟩ := itsOf_lst hz2
    refine wp_eq rfl ?_
    refine wp_seqK ?_
    intro K2 hK2
    walk_at "go"
    refine wp_eq (isi_eq (f2 .list)) ?_
    walk_at "go"
    refine wp_eq hi ?_
    walk_at "go"
    refine wp_eq (lc_items (its := ⟨Z.map tT, src⟩) ((Z.map fun _ => true).map .bl) (hok st fun _ _ => rfl) (by rw [List.length_map, List.length_map]; exact (List.length_map _).symm) (fun j w hw => ?_)) ?_
    · obtain ⟨r, hr, _, rfl⟩ := get_map hw
      exact ⟨_, .bl true, rfl, by rw [List.map_map, List.getElem?_map, hr]; rfl, rfl⟩
    refine wp_eq (mkV_eq (okL (by rw [List.length_map, List.length_map]; omega))) ?_
    walk_at "go"
    refine wp_eq (cmpIn_bls (s := Z.map fun _ => true) rfl) ?_
    have e1 : (Z.map fun _ => true).contains false = false := by
      have := all_contains (fun _ : List Int => true) Z
      rw [List.all_eq_true.mpr (fun _ _ => rfl)] at this
      revert this
      cases (Z.map fun _ => true).contains false <;> decide
    rw [e1]
    walk_at "go"
    walk_at "nk"
    walk_at "go"
    refine wp_eq hi ?_
    refine for_all_wp (its := ⟨Z.map tT, src⟩) (hok st fun _ _ => rfl) false (fun env => ∃ u2 u3, env = [some (.tup [x, y]), some z, u2, u3]) (fun _ => true) (fun k w env hw hI => ?_) ⟨_, _, rfl⟩ (fun h env hP => ?_) (fun h => ?_)
    · obtain ⟨u2, u3, rfl⟩ := hI
      obtain ⟨r, hr, hrm, rfl⟩ := get_map hw
      have hrl := rZ r hrm
      refine wp_eq rfl ?_
      walk_at "go"
      refine wp_eq (lc_items (its := ⟨r.map .int, none⟩) ((r.map fun _ => true).map .bl) Its.ok_none (by rw [List.length_map, List.length_map]; exact (List.length_map _).symm) (fun j w hw => ?_)) ?_
      · obtain ⟨c, hc, _, rfl⟩ := get_map hw
        refine ⟨_, .bl true, rfl, by rw [List.map_map, List.getElem?_map, hc]; rfl, eq_of_wp ?_⟩
        walk_at "go"
        refine wp_eq whole_int ?_
        walk_at "go"
        exact ⟨rfl, rfl⟩
      refine wp_eq (mkV_eq (okL (by rw [List.length_map, List.length_map]; omega))) ?_
      walk_at "go"
      refine wp_eq (cmpIn_bls (s := r.map fun _ => true) rfl) ?_
      have e2 : (r.map fun _ => true).contains false = false := by
        have := all_contains (fun _ : Int => true) r
        rw [List.all_eq_true.mpr (fun _ _ => rfl)] at this
        revert this
        cases (r.map fun _ => true).contains false <;> decide
      rw [e2]
      walk_at "go"
      exact ⟨rfl, _, rfl, _, _, rfl⟩
    · obtain ⟨u2, u3, rfl⟩ := hP
      exact ⟨rfl, _, rfl, _, _, _, rfl⟩
    · rw [List.all_eq_true.mpr (fun _ _ => rfl)] at h
      cases h
  · obtain ⟨u1, u2, u3, rfl⟩ := hP
    walk_at "nk"
    walk_at "go"
    exact ⟨rfl, rfl⟩
  · rw [List.all_eq_true.mpr (fun _ _ => rfl)] at h
    cases h
/-- lists of tuples of moderate size -/
def Mod (n : Nat) (R : List (List Int)) : Prop := R.length ≤ n ∧ ∀ r ∈ R, r.length ≤ 100
theorem law_shown_eq {S O P : List (List Int)} {st : Sto} (hS : Mod 1000 S) (hO : Mod 1000 O) (hP : Mod 1000 P) : f_law_shown [rowsP S, rowsP O, rowsP P, .bl (judge S O P)] st = some (.bl true, st) := by
  have pl : ∀ {R : List (List Int)}, Mod 1000 R → plainP 5 (rowsP R) = true := fun h => plain_rows (fun q hq => Nat.le_trans (h.2 q hq) (by omega)) (Nat.le_trans h.1 (by omega))
  unfold f_law_shown
  refine runF_eq rfl (lb_bl _ _) ?_
  show wp (D_law_shown [some (rowsP S), some (rowsP O), some (rowsP P), some (.bl (judge S O P)), none, none, none] st) _
  unfold D_law_shown
  have bl : ∀ {R : List (List Int)}, Mod 1000 R → bList false [rowsP R] st = some (rowsP R, st) := fun h => bList_v rfl (by rw [List.length_map]; have := h.1; omega)
  refine wp_seqK ?_
  intro K hK
  walk_at "go"
  refine wp_eq (bl hS) ?_
  walk_at "go"
  walk_at "nk"
  clear hK
  refine wp_seqK ?_
  intro K hK
  walk_at "go"
  refine wp_eq (bl hO) ?_
  walk_at "go"
  walk_at "nk"
  clear hK
  refine wp_seqK ?_
  intro K hK
  walk_at "go"
  refine wp_eq (bl hP) ?_
  walk_at "go"
  walk_at "nk"
  clear hK
  refine wp_seqK ?_
  intro K hK
  walk_at "go"
  refine wp_eq (shows_eq hO.1) ?_
  walk_at "go"
  refine wp_eq (same_ok (v := .bl (judge S O P)) rfl rfl plain_bl) ?_
  walk_at "go"
  walk_at "nk"
  clear hK
  walk_at "go"
  refine wp_eq (same_ok (v := rowsP S) rfl rfl (pl hS)) ?_
  walk_at "go"
  refine wp_eq (same_ok (v := rowsP O) rfl rfl (pl hO)) ?_
  walk_at "go"
  refine wp_eq (same_ok (v := rowsP P) rfl rfl (pl hP)) ?_
  walk_at "go"
  exact ⟨rfl, rfl⟩
/-! expressions over rows that change nothing -/
def IsR (e : DE) (env : Env) (st : Sto) (n : Nat) : Prop := ∃ R, e env st = some (rowsP R, st) ∧ Mod n R
def IsT (e : DE) (env : Env) (st : Sto) (n : Nat) : Prop := ∃ a, e env st = some (tT a, st) ∧ a.length ≤ n
def IsO (o : DO) (env : Env) (st : Sto) : Prop := ∃ x, o env st = some (x, st)
def IsA (a : DA) (env : Env) (st : Sto) (n : Nat) : Prop := ∃ R : List (List Int), a env st = some (R.map tT, st) ∧ Mod n R
def cutG {α : Type} (xs : List α) (lo hi : Option Int) : List α := (xs.drop (HT.sIx xs.length 0 lo)).take (HT.sIx xs.length xs.length hi - HT.sIx xs.length 0 lo)
theorem cutP_map {α : Type} (f : α → PV) (l : List α) (lo hi : Option Int) : cutP (l.map f) lo hi = (cutG l lo hi).map f := by
  unfold cutP cutG
  rw [List.length_map, List.map_take, List.map_drop]
theorem cutG_len {α : Type} (l : List α) (lo hi : Option Int) : (cutG l lo hi).length ≤ l.length := by
  unfold cutG
  rw [List.length_take, List.length_drop]
  omega
theorem cutG_mem {α : Type} {l : List α} {lo hi : Option Int} {x : α} (h : x ∈ cutG l lo hi) : x ∈ l := List.mem_of_mem_drop (List.mem_of_mem_take h)
theorem Mod.mono {n m : Nat} {R : List (List Int)} (h : Mod n R) (q : n ≤ m) : Mod m R := ⟨Nat.le_trans h.1 q, h.2⟩
theorem addR {A B : List (List Int)} {st : Sto} (h : A.length + B.length ≤ 100000) : opAdd false (rowsP A) (rowsP B) st = some (rowsP (A ++ B), st) := by
  refine (add_lst (b := B.map tT) rfl).trans ((mkV_eq (okL ?_)).trans ?_)
  · rw [List.length_append, List.length_map, List.length_map]; omega
  · rw [← List.map_append]; rfl
theorem slT {m : Bool} {a : DE} {lo hi : DO} {env : Env} {st : Sto} {xs : List PV} {l h : Option Int} (h0 : a env st = some (.tup xs, st)) (h1 : lo env st = some (l, st)) (h2 : hi env st = some (h, st)) : dSl m a lo hi env st = some (.tup (cutP xs l h), st) := by
  unfold dSl
  rw [h0, mb_some, h1, mb_some, h2, mb_some]
theorem slL {m : Bool} {a : DE} {lo hi : DO} {env : Env} {st : Sto} {v : PV} {xs : List PV} {l h : Option Int} (h0 : a env st = some (v, st)) (hv : lstOf st v = some xs) (h1 : lo env st = some (l, st)) (h2 : hi env st = some (h, st)) : dSl m a lo hi env st = mkL m (cutP xs l h) st := by
  unfold dSl
  rw [h0, mb_some, h1, mb_some, h2, mb_some]
  exact slc hv
section
variable {e f : DE} {a : DA} {lo hi : DO} {env : Env} {st : Sto} {n m : Nat}
theorem IsR.var {i : Nat} {R : List (List Int)} (h : env[i]? = some (some (rowsP R))) (hR : Mod n R) : IsR (dVar i) env st n := ⟨R, by unfold dVar; rw [h], hR⟩
theorem IsT.var {i : Nat} {a : List Int} (h : env[i]? = some (some (tT a))) (ha : a.length ≤ n) : IsT (dVar i) env st n := ⟨a, by unfold dVar; rw [h], ha⟩
theorem IsR.add (h : IsR e env st n) (k : IsR f env st m) (hz : n + m ≤ 1000) : IsR (dBin (opAdd false) e f) env st (n + m) := by
  obtain ⟨A, e1, a1, a2⟩ := h
  obtain ⟨B, e2, b1, b2⟩ := k
  refine ⟨A ++ B, ?_, by rw [List.length_append]; omega, fun r hr => ?_⟩
  · unfold dBin
    rw [e1, mb_some, e2, mb_some]
    exact addR (by omega)
  · rcases List.mem_append.mp hr with hr | hr
    · exact a2 r hr
    · exact b2 r hr
theorem IsT.add (h : IsT e env st n) (k : IsT f env st m) (hz : n + m ≤ 1000) : IsT (dBin (opAdd false) e f) env st (n + m) := by
  obtain ⟨A, e1, a1⟩ := h
  obtain ⟨B, e2, b1⟩ := k
  refine ⟨A ++ B, ?_, by rw [List.length_append]; omega⟩
  unfold dBin
  rw [e1, mb_some, e2, mb_some]
  exact add_tT (by omega)
theorem IsA.nil : IsA aNil env st 0 := ⟨[], rfl, Nat.le_refl _, fun r h => by cases h⟩
theorem IsA.cons (h : IsT e env st 100) (k : IsA a env st n) : IsA (aCons e a) env st (n + 1) := by
  obtain ⟨A, e1, a1⟩ := h
  obtain ⟨B, e2, b1, b2⟩ := k
  refine ⟨A :: B, ?_, by rw [List.length_cons]; omega, fun r hr => ?_⟩
  · unfold aCons
    rw [e1, mb_some, e2, mb_some]; rfl
  · rcases List.mem_cons.mp hr with rfl | hr
    · exact a1
    · exact b2 r hr
theorem IsR.lst (h : IsA a env st n) (hz : n ≤ 1000) : IsR (dLst false a) env st n := by
  obtain ⟨A, e1, a1, a2⟩ := h
  refine ⟨A, ?_, a1, a2⟩
  unfold dLst dApp
  rw [e1, mb_some]
  exact mkV_eq (okL (by rw [List.length_map]; omega))
theorem IsO.none : IsO oNone env st := ⟨_, rfl⟩
theorem IsO.some {i : Int} (h : e env st = some (.int i, st)) : IsO (oSome e) env st := ⟨Option.some i, by unfold oSome; rw [h]; rfl⟩
theorem IsR.sl (h : IsR e env st n) (h1 : IsO lo env st) (h2 : IsO hi env st) (hz : n ≤ 1000) : IsR (dSl false e lo hi) env st n := by
  obtain ⟨A, e1, a1, a2⟩ := h
  obtain ⟨x, h1⟩ := h1
  obtain ⟨y, h2⟩ := h2
  refine ⟨cutG A x y, ?_, Nat.le_trans (cutG_len _ _ _) a1, fun r hr => a2 r (cutG_mem hr)⟩
  rw [slL e1 rfl h1 h2, cutP_map]
  exact mkV_eq (okL (by rw [List.length_map]; have := cutG_len A x y; omega))
theorem IsT.sl (h : IsT e env st n) (h1 : IsO lo env st) (h2 : IsO hi env st) : IsT (dSl false e lo hi) env st n := by
  obtain ⟨A, e1, a1⟩ := h
  obtain ⟨x, h1⟩ := h1
  obtain ⟨y, h2⟩ := h2
  refine ⟨cutG A x y, ?_, Nat.le_trans (cutG_len _ _ _) a1⟩
  rw [slT e1 h1 h2, cutP_map]; rfl
end
/-- a pair of orders and searches apart -/
def prPV (x : List (List Int) × List (List Int)) : PV := .tup [rowsP x.1, rowsP x.2]
def ModP (x : List (List Int) × List (List Int)) : Prop := Mod 1000 x.1 ∧ Mod 1000 x.2
def IsP (e : DE) (env : Env) (st : Sto) : Prop := ∃ x, e env st = some (prPV x, st) ∧ ModP x
theorem IsP.mk {e f : DE} {env : Env} {st : Sto} {n m : Nat} (h : IsR e env st n) (k : IsR f env st m) (hn : n ≤ 1000) (hm : m ≤ 1000) : IsP (dTup (aCons e (aCons f aNil))) env st := by
  obtain ⟨A, e1, a1⟩ := h
  obtain ⟨B, e2, b1⟩ := k
  refine ⟨(A, B), ?_, a1.mono hn, b1.mono hm⟩
  simp only [dTup, dApp, aCons, aNil, e1, e2, mb_some]
  rfl
theorem prPV_lb {n : Nat} (x : List (List Int) × List (List Int)) : (prPV x).lb n = true := by
  unfold prPV rowsP
  rw [lb_tup, lbs_cons, lb_lst, rows_lb, lbs_cons, lb_lst, rows_lb, lbs_nil]
  rfl
end DL

namespace DL
open PySem L2
local macro_rules | `(tactic| walk_at "go") => `(tactic| repeat (first | refine wp_mb ?_ | with_reducible refine wp_mul (by first | assumption | (exact okMul_iff.mpr (by omega))) ?_ | with_reducible refine wp_mod (by first | assumption | (exact okMod_iff.mpr (by omega))) ?_ | with_reducible refine wp_div (by first | assumption | (exact okDiv_iff.mpr (by omega))) ?_ | with_reducible refine wp_pow (by first | assumption | (exact okPow_iff.mpr (by decide))) ?_ | ((with_reducible refine wp_set ?_ ?_ ?_); (focus rfl); (focus first | exact tT_lb | exact lb_int _ _ | exact lb_bl _ _ | exact lb_non _ | assumption)) | refine wp_eq rfl ?_))
local macro_rules | `(tactic| walk_at "st") => `(tactic| ((first | (refine wp_seqK ?_; intro K hK) | skip); walk_at "go"))
local macro_rules | `(tactic| walk_at "nx") => `(tactic| ((try dsimp only [List.set_cons_zero, List.set_cons_succ]); refine wp_nx (by assumption) ?_; walk_at "st"))
local macro_rules | `(tactic| walk_at "nk") => `(tactic| ((try dsimp only [List.set_cons_zero, List.set_cons_succ]); refine wp_nx (by assumption) ?_))
/-! Dx: the pool, and places made since -/
def Drx (p : Nat) (st s : Sto) : Prop := st.nxt ≤ s.nxt ∧ Dr p st (s.restr st.nxt)
theorem Drx.refl {p : Nat} {st : Sto} (h : Pool p st) : Drx p st st := ⟨Nat.le_refl _, by rw [Sto.restr_self]; exact .refl h⟩
theorem Drx.alloc {p : Nat} {st s : Sto} {c : Cell} (h : Drx p st s) : Drx p st (s.alloc c) := ⟨by rw [Sto.alloc_nxt]; exact Nat.le_succ_of_le h.1, by rw [Sto.restr_alloc h.1]; exact h.2⟩
theorem Drx.set {p l : Nat} {st s : Sto} {c : Cell} (h : Drx p st s) (hl : st.nxt ≤ l) : Drx p st (s.set l c) := ⟨h.1, by rw [Sto.restr_set_ge hl]; exact h.2⟩
theorem Drx.dr {p : Nat} {st s s' : Sto} (h : Drx p st s) (hP : Pool p s) (hp : p < st.nxt) (d : Dr p s s') : Drx p st s' := by
  obtain ⟨P0, h0, _⟩ := hP
  obtain ⟨P, rfl, h2⟩ := d
  refine ⟨h.1, ?_⟩
  rw [Sto.restr_set_lt hp h.1 h0 ints_lb ints_lb]
  exact h.2.trans ⟨P, rfl, h2⟩
structure PL (p l : Nat) (st s : Sto) (c : Cell) : Prop where
  pool : Pool p s
  drx : Drx p st s
  at' : s.cs l = some c
  hl : st.nxt ≤ l
  hp : p < st.nxt
namespace PL
variable {p l : Nat} {st s s' : Sto} {c c' : Cell}
theorem new (h : Pool p st) (hc : c.lb st.nxt = true) : PL p st.nxt st (st.alloc c) c := ⟨h.alloc, (Drx.refl h).alloc, Sto.alloc_get hc, Nat.le_refl _, h.lt⟩
theorem ne (h : PL p l st s c) : l ≠ p := by have := h.hl; have := h.hp; omega
theorem dr (h : PL p l st s c) (d : Dr p s s') : PL p l st s' c := ⟨h.pool.dr d, h.drx.dr h.pool h.hp d, by rw [d.get h.ne]; exact h.at', h.hl, h.hp⟩
theorem put (h : PL p l st s c) (hc : c'.lb s.nxt = true) : PL p l st (s.set l c') c' := ⟨h.pool.set h.ne, h.drx.set h.hl, Sto.set_get h.at' hc, h.hl, h.hp⟩
theorem other {l2 : Nat} {c2 : Cell} (h : PL p l st s c) (h2 : st.nxt ≤ l2) (hne : l ≠ l2) : PL p l st (s.set l2 c2) c := ⟨h.pool.set (by have := h.hp; omega), h.drx.set h2, by rw [Sto.set_ne hne]; exact h.at', h.hl, h.hp⟩
theorem alloc {c2 : Cell} (h : PL p l st s c) : PL p l st (s.alloc c2) c := ⟨h.pool.alloc, h.drx.alloc, by rw [Sto.alloc_ne (by have := Sto.lt_of h.at'; omega)]; exact h.at', h.hl, h.hp⟩
theorem fin (h : PL p l st s c) (hc : c.lb st.nxt = true) : DL.fin st.nxt (.loc l) s = some (.loc (s.restr st.nxt).nxt, (s.restr st.nxt).alloc c) := fin_loc h.hl h.at' hc
end PL
theorem settle_dr {p : Nat} {st st' : Sto} (d : Dr p st st') {xs : List PV} (h : lbs st'.nxt xs = true) : settle st.nxt (.loc st'.nxt) (st'.alloc (.lst xs)) = some (.lst xs, st') := by
  rw [← d.nxt]
  exact settle_new h
/-! W10 of k11: the spoilt pairs -/
def IsPs (a : DA) (env : Env) (st : Sto) (n : Nat) : Prop := ∃ X : List (List (List Int) × List (List Int)), a env st = some (X.map prPV, st) ∧ X.length ≤ n ∧ ∀ x ∈ X, ModP x
theorem IsPs.nil {env : Env} {st : Sto} : IsPs aNil env st 0 := ⟨[], rfl, Nat.le_refl _, fun r h => by cases h⟩
theorem IsPs.cons {e : DE} {a : DA} {env : Env} {st : Sto} {n : Nat} (h : IsP e env st) (k : IsPs a env st n) : IsPs (aCons e a) env st (n + 1) := by
  obtain ⟨A, e1, a1⟩ := h
  obtain ⟨B, e2, b1, b2⟩ := k
  refine ⟨A :: B, ?_, by rw [List.length_cons]; omega, fun r hr => ?_⟩
  · unfold aCons
    rw [e1, mb_some, e2, mb_some]; rfl
  · rcases List.mem_cons.mp hr with rfl | hr
    · exact a1
    · exact b2 r hr
theorem prs_lb {n : Nat} (X : List (List (List Int) × List (List Int))) : lbs n (X.map prPV) = true := lbs_map prPV_lb X
def PX (p l : Nat) (st s : Sto) (n : Nat) : Prop := ∃ X : List (List (List Int) × List (List Int)), PL p l st s (.lst (X.map prPV)) ∧ X.length ≤ n ∧ ∀ x ∈ X, ModP x
theorem push_wp {e : DE} {env : Env} {s st : Sto} {p l n : Nat} {Q : Fl → Sto → Prop} (F : PX p l st s n) (hv : env[12]? = some (some (.loc l))) (he : IsP e env s) (hz : n ≤ 1000)
    (q : ∀ s', PX p l st s' (n + 1) → Q (.nx env) s') : wp (sExpr (dMetL mAppend (dVar 12) (aCons e aNil)) env s) Q := by
  obtain ⟨X, F, h1, h2⟩ := F
  obtain ⟨x, e1, a1⟩ := he
  have e0 : (dMetL mAppend (dVar 12) (aCons e aNil)) env s = some (.non, s.set l (.lst ((X ++ [x]).map prPV))) := by
    have ev : dVar 12 env s = some (.loc l, s) := by unfold dVar; rw [hv]
    unfold dMetL aCons
    rw [ev, mb_some, loc_asL F.at', mb_some, e1, mb_some]
    show mAppend l [prPV x] s = _
    rw [loc_append F.at' (by rw [List.length_map]; exact ltL h1 (by omega)) (prPV_lb x), List.map_append]
    rfl
  unfold sExpr
  refine wp_mb (wp_eq e0 (wp_eq rfl ?_))
  refine q _ ⟨X ++ [x], F.put (prs_lb _), by rw [List.length_append]; show X.length + 1 ≤ n + 1; omega, fun y hy => ?_⟩
  rcases List.mem_append.mp hy with hy | hy
  · exact h2 y hy
  · rw [List.mem_singleton.mp hy]; exact a1
theorem push_seq {e : DE} {B : DS} {env : Env} {s st : Sto} {p l n : Nat} {Q : Fl → Sto → Prop} (F : PX p l st s n) (hv : env[12]? = some (some (.loc l))) (he : IsP e env s) (hz : n ≤ 1000)
    (q : ∀ s', PX p l st s' (n + 1) → wp (B env s') Q) : wp (sSeq (sExpr (dMetL mAppend (dVar 12) (aCons e aNil))) B env s) Q := by
  refine wp_seqK ?_
  intro K hK
  exact push_wp F hv he hz fun s' F' => hK _ _ (q s' F')
theorem add_loc {m : Bool} {l : Nat} {xs ys : List PV} {y : PV} {st : Sto} (h : st.cs l = some (.lst xs)) (hy : lstOf st y = some ys) : opAdd m (.loc l) y st = mkL m (xs ++ ys) st := by
  show (match lstOf st (.loc l), lstOf st y with | some a, some b => mkL m (a ++ b) st | _, _ => none) = _
  rw [lst_loc h, hy]
theorem dLst_eq {m : Bool} {a : DA} {env : Env} {st : Sto} {xs : List PV} (h : a env st = some (xs, st)) : dLst m a env st = mkL m xs st := by
  unfold dLst dApp
  rw [h, mb_some]
theorem iSeq_rows {e : DE} {env : Env} {st : Sto} {R : List (List Int)} (h : e env st = some (rowsP R, st)) : iSeq e env st = some (⟨R.map tT, none⟩, st) := by
  unfold iSeq
  rw [h, mb_some]
  rfl
/-- what is handed to the law's spoiler -/
structure Base (S O P : List (List Int)) : Prop where
  s : S.length ≤ 64 ∧ ∀ r ∈ S, r.length ≤ 20
  o : O.length ≤ 64 ∧ ∀ r ∈ O, r.length ≤ 20
  p : P.length ≤ 64 ∧ ∀ r ∈ P, r.length ≤ 20
  sn : 0 < S.length
  on : 0 < O.length
  pn : 0 < P.length
theorem modB {R : List (List Int)} (h : R.length ≤ 64 ∧ ∀ r ∈ R, r.length ≤ 20) : Mod 64 R := ⟨h.1, fun r hr => Nat.le_trans (h.2 r hr) (by omega)⟩
theorem spoilt_wp {p : Nat} {st : Sto} {S O P : List (List Int)} {Q : PV → Sto → Prop} (h : Pool p st) (B : Base S O P)
    (q : ∀ (X : List (List (List Int) × List (List Int))) st', (∀ x ∈ X, ModP x) → X.length ≤ 1000 → Dr p st st' → Q (.lst (X.map prPV)) st') : wp (f_law_spoilt [.loc p, rowsP S, rowsP O, rowsP P] st) Q := by
  have mS := modB B.s
  have mO := modB B.o
  have mP := modB B.p
  unfold f_law_spoilt
  refine wp_runF rfl ?_
  show wp (D_law_spoilt [some (.loc p), some (rowsP S), some (rowsP O), some (rowsP P), none, none, none, none, none, none, none, none, none, none, none, none] st) _
  unfold D_law_spoilt
  refine wp_seqK ?_
  intro K hK
  walk_at "go"
  rw [List.length_map]
  refine draw_wp h (by have := B.on; omega) fun r1 s1 a1 b1 d1 => ?_
  refine wp_set (by rw [d1.nxt]) (lb_int _ _) ?_
  obtain ⟨i, rfl⟩ := Int.eq_ofNat_of_zero_le a1
  have hi : i < O.length := by omega
  walk_at "go"
  walk_at "nk"
  clear hK
  refine wp_seqK ?_
  intro K hK
  walk_at "go"
  refine wp_eq (rows_at hi) ?_
  have hoi := B.o.2 _ (getD_mem hi)
  generalize O.getD i [] = o at hoi ⊢
  walk_at "go"
  walk_at "nk"
  clear hK
  refine wp_seqK ?_
  intro K hK
  obtain ⟨ah, e1, mah⟩ : IsR (dSl false (dVar 2) oNone (oSome (dVar 4))) [some (.loc p), some (rowsP S), some (rowsP O), some (rowsP P), some (.int i), some (tT o), none, none, none, none, none, none, none, none, none, none] s1 64 := IsR.sl (.var rfl mO) .none (.some rfl) (by omega)
  refine wp_mb (wp_eq e1 ?_)
  walk_at "go"
  walk_at "nk"
  clear hK e1
  refine wp_seqK ?_
  intro K hK
  obtain ⟨ot, e1, mot⟩ : IsR (dSl false (dVar 2) (oSome (dBin (opAdd false) (dVar 4) (dCst (.int 1)))) oNone) [some (.loc p), some (rowsP S), some (rowsP O), some (rowsP P), some (.int i), some (tT o), some (rowsP ah), none, none, none, none, none, none, none, none, none] s1 64 := IsR.sl (.var rfl mO) (.some rfl) .none (by omega)
  refine wp_mb (wp_eq e1 ?_)
  walk_at "go"
  walk_at "nk"
  clear hK e1
  refine wp_seqK ?_
  intro K hK
  walk_at "go"
  rw [List.length_map]
  refine draw_wp (h.dr d1) (by have := B.pn; omega) fun r2 s2 a2 b2 d2 => ?_
  refine wp_set (by rw [d2.nxt]) (lb_int _ _) ?_
  have d12 := d1.trans d2
  clear d1 d2
  obtain ⟨j, rfl⟩ := Int.eq_ofNat_of_zero_le a2
  have hj : j < P.length := by omega
  walk_at "go"
  walk_at "nk"
  clear hK
  refine wp_seqK ?_
  intro K hK
  walk_at "go"
  refine pick_wp (h.dr d12) (xs := S.map tT) (fun _ _ => rfl) (by rw [List.length_map]; exact B.sn) (by intro x hx; obtain ⟨a, _, rfl⟩ := List.mem_map.mp hx; exact tT_lb) fun x s3 hx d3 => ?_
  obtain ⟨sr, hsr, rfl⟩ := List.mem_map.mp hx
  have hsl := B.s.2 _ hsr
  refine wp_set (by rw [d3.nxt]) tT_lb ?_
  have d13 := d12.trans d3
  clear d12 d3 hx
  walk_at "go"
  walk_at "nk"
  clear hK
  refine wp_seqK ?_
  intro K hK
  walk_at "go"
  refine draw_wp (h.dr d13) (by decide) fun r4 s4 a4 b4 d4 => ?_
  refine wp_set (by rw [d4.nxt]) (lb_int _ _) ?_
  have d14 := d13.trans d4
  clear d13 d4
  obtain ⟨w, rfl⟩ := Int.eq_ofNat_of_zero_le a4
  walk_at "go"
  refine wp_pos (okR (by omega)) ?_
  walk_at "go"
  refine lcGo_wp (its := ⟨rng 0 (w : Int), none⟩) (fun k done s => Dr p st s ∧ ∃ a : List Int, done = a.map .int ∧ a.length = k) _ (fun k x done s hx hI => ?_) (fun done s hI => ?_) ⟨d14, [], rfl, rfl⟩
  · obtain ⟨d, a, rfl, rfl⟩ := hI
    obtain ⟨hk, rfl⟩ := rng_at hx
    refine ⟨Its.ok_none, wp_eq rfl (wp_eq rfl ?_)⟩
    rw [if_pos rfl]
    walk_at "go"
    refine draw_wp (h.dr d) (by decide) fun r5 s5 a5 b5 d5 => ?_
    refine wp_set (by rw [d5.nxt]) (lb_int _ _) ?_
    walk_at "go"
    exact ⟨d.trans d5, a ++ [_], by rw [List.map_append]; rfl, by rw [List.length_append]; rfl⟩
  clear d14
  obtain ⟨d15, sg, rfl, hsg⟩ := hI
  rw [rng_len] at hsg
  refine ⟨Its.ok_none, ?_⟩
  refine wp_eq (mkV_eq (okL (by rw [List.length_map]; omega))) ?_
  walk_at "go"
  refine wp_eq (a := tT sg) (s := s) (mkT_eq (okL (by rw [List.length_map]; omega))) ?_
  walk_at "go"
  walk_at "nk"
  clear hK
  have hsg : sg.length ≤ 20 := by omega
  refine wp_seqK ?_
  intro K hK
  obtain ⟨X0, e1, z0, m0⟩ : IsPs (aCons (dTup (aCons (dBin (opAdd false) (dVar 6) (dVar 7)) (aCons (dVar 3) aNil))) (aCons (dTup (aCons (dBin (opAdd false) (dVar 2) (dLst false (aCons (dVar 10) aNil))) (aCons (dVar 3) aNil))) (aCons (dTup (aCons (dBin (opAdd false) (dVar 2) (dLst false (aCons (dVar 5) aNil))) (aCons (dVar 3) aNil))) (aCons (dTup (aCons (dLst false aNil) (aCons (dLst false aNil) aNil))) aNil)))) [some (.loc p), some (rowsP S), some (rowsP O), some (rowsP P), some (.int i), some (tT o), some (rowsP ah), some (rowsP ot), some (.int j), some (tT sr), some (tT sg), none, none, none, none, none] s 4 :=
    .cons (.mk (.add (.var rfl mah) (.var rfl mot) (by omega)) (.var rfl mP) (by omega) (by omega)) (.cons (.mk (.add (.var rfl mO) (.lst (.cons (.var rfl (by omega)) .nil) (by omega)) (by omega)) (.var rfl mP) (by omega) (by omega)) (.cons (.mk (.add (.var rfl mO) (.lst (.cons (.var rfl (by omega)) .nil) (by omega)) (by omega)) (.var rfl mP) (by omega) (by omega)) (.cons (.mk (.lst .nil (by omega)) (.lst .nil (by omega)) (by omega) (by omega)) .nil)))
  refine wp_mb ?_
  refine wp_eq (a := .loc s.nxt) (s := s.alloc (.lst (X0.map prPV))) ?_ ?_
  · rw [dLst_eq e1]
    exact mkM_eq (okL (by rw [List.length_map]; omega)) (prs_lb _)
  have hs : s.nxt = st.nxt := d15.nxt
  have F0 : PX p st.nxt st (s.alloc (.lst (X0.map prPV))) 4 := by
    refine ⟨X0, ⟨(h.dr d15).alloc, ⟨by rw [Sto.alloc_nxt, hs]; exact Nat.le_succ _, by rw [Sto.restr_alloc (by rw [hs]; exact Nat.le_refl _), d15.restr]; exact d15⟩, ?_, Nat.le_refl _, h.lt⟩, z0, m0⟩
    rw [← hs]
    exact Sto.alloc_get (prs_lb _)
  rw [hs]
  generalize s.alloc (.lst (X0.map prPV)) = t0 at F0 ⊢
  clear e1 z0 m0
  walk_at "go"
  walk_at "nk"
  clear hK
  refine wp_seqK ?_
  intro K hK
  obtain ⟨L1, e1, zL1, mL1⟩ : IsR (dLst false (aCons (dBin (opAdd false) (dBin (opAdd false) (dSl false (dVar 5) (oSome (dCst (.int 1))) (oSome (dCst (.int 2)))) (dSl false (dVar 5) oNone (oSome (dCst (.int 1))))) (dSl false (dVar 5) (oSome (dCst (.int 2))) oNone)) (aCons (dBin (opAdd false) (dVar 5) (dSl false (dVar 5) oNone (oSome (dCst (.int 1))))) (aCons (dBin (opAdd false) (dVar 5) (dTup (aCons (dCst (.int 6)) aNil))) (aCons (dBin (opAdd false) (dVar 5) (dTup (aCons (dUn opNeg (dCst (.int 1))) aNil))) (aCons (dSl false (dVar 5) oNone (oSome (dBin opSub (dApp (bLen) (aCons (dVar 5) aNil)) (dCst (.int 1))))) (aCons (dVar 10) aNil)))))))
      [some (.loc p), some (rowsP S), some (rowsP O), some (rowsP P), some (.int i), some (tT o), some (rowsP ah), some (rowsP ot), some (.int j), some (tT sr), some (tT sg), none, some (.loc st.nxt), none, none, none] t0 6 := by
    have vo : IsT (dVar 5) [some (.loc p), some (rowsP S), some (rowsP O), some (rowsP P), some (.int i), some (tT o), some (rowsP ah), some (rowsP ot), some (.int j), some (tT sr), some (tT sg), none, some (.loc st.nxt), none, none, none] t0 20 := .var rfl hoi
    have up : ∀ {e : DE} {env : Env} {s : Sto} {n : Nat}, IsT e env s n → n ≤ 100 → IsT e env s 100 := fun h hn => by
      obtain ⟨a, b, c⟩ := h
      exact ⟨a, b, by omega⟩
    refine .lst (.cons (up (.add (.add (.sl vo (.some rfl) (.some rfl)) (.sl vo .none (.some rfl)) (by omega)) (.sl vo (.some rfl) .none) (by omega)) (by omega)) (.cons (up (.add vo (.sl vo .none (.some rfl)) (by omega)) (by omega)) (.cons (up (.add vo (m := 1) ⟨[6], rfl, Nat.le_refl _⟩ (by omega)) (by omega)) (.cons (up (.add vo (m := 1) ⟨[-1], rfl, Nat.le_refl _⟩ (by omega)) (by omega)) (.cons (up (.sl vo .none (.some rfl)) (by omega)) (.cons (.var rfl (by omega)) .nil)))))) (by omega)
  refine wp_mb (wp_eq (iSeq_rows e1) ?_)
  refine forGo_wp (its := ⟨L1.map tT, none⟩) (fun k env s => (∃ u13, env = [some (.loc p), some (rowsP S), some (rowsP O), some (rowsP P), some (.int i), some (tT o), some (rowsP ah), some (rowsP ot), some (.int j), some (tT sr), some (tT sg), none, some (.loc st.nxt), u13, none, none]) ∧ PX p st.nxt st s (4 + k)) _ (fun k x env s hx hI => ?_) (fun env s hI => ?_) ⟨⟨_, rfl⟩, F0⟩
  · obtain ⟨⟨u13, rfl⟩, F⟩ := hI
    obtain ⟨one, hone, hom, rfl⟩ := get_map hx
    have hk : k < L1.length := (List.getElem?_eq_some_iff.mp hone).1
    refine ⟨Its.ok_none, wp_eq rfl ?_⟩
    dsimp only [List.set_cons_zero, List.set_cons_succ]
    exact push_wp F rfl (.mk (.add (.add (.var rfl mah) (.lst (.cons (.var rfl (mL1 one hom)) .nil) (by omega)) (by omega)) (.var rfl mot) (by omega)) (.var rfl mP) (by omega) (by omega)) (by omega) fun s' F' => ⟨⟨_, rfl⟩, F'⟩
  clear F0 e1
  obtain ⟨⟨u13, rfl⟩, F⟩ := hI
  rw [show (Its.mk (L1.map tT) none).items.length = L1.length from List.length_map _] at F
  refine ⟨Its.ok_none, ?_⟩
  walk_at "nk"
  clear hK
  have F : PX p st.nxt st s 10 := by
    obtain ⟨X, a, b, c⟩ := F
    exact ⟨X, a, by omega, c⟩
  refine wp_seqK ?_
  intro K hK
  obtain ⟨fi, e1, mfi⟩ : IsR (dSl false (dVar 3) oNone (oSome (dVar 8))) [some (.loc p), some (rowsP S), some (rowsP O), some (rowsP P), some (.int i), some (tT o), some (rowsP ah), some (rowsP ot), some (.int j), some (tT sr), some (tT sg), none, some (.loc st.nxt), u13, none, none] s 64 := IsR.sl (.var rfl mP) .none (.some rfl) (by omega)
  refine wp_mb (wp_eq e1 ?_)
  walk_at "go"
  walk_at "nk"
  clear hK e1
  refine wp_seqK ?_
  intro K hK
  obtain ⟨la, e1, mla⟩ : IsR (dSl false (dVar 3) (oSome (dBin (opAdd false) (dVar 8) (dCst (.int 1)))) oNone) [some (.loc p), some (rowsP S), some (rowsP O), some (rowsP P), some (.int i), some (tT o), some (rowsP ah), some (rowsP ot), some (.int j), some (tT sr), some (tT sg), none, some (.loc st.nxt), u13, some (rowsP fi), none] s 64 := IsR.sl (.var rfl mP) (.some rfl) .none (by omega)
  refine wp_mb (wp_eq e1 ?_)
  walk_at "go"
  walk_at "nk"
  clear hK e1
  have hPj := B.p.2 _ (getD_mem hj)
  have pjE : ∀ (u13 : Option PV) (s : Sto), dBin opIx (dVar 3) (dVar 8) [some (.loc p), some (rowsP S), some (rowsP O), some (rowsP P), some (.int i), some (tT o), some (rowsP ah), some (rowsP ot), some (.int j), some (tT sr), some (tT sg), none, some (.loc st.nxt), u13, some (rowsP fi), some (rowsP la)] s = some (tT (P.getD j []), s) := fun u13 s => by
    show opIx (rowsP P) (.int (j : Int)) s = _
    exact rows_at hj
  have pj : ∀ u13 s, IsT (dBin opIx (dVar 3) (dVar 8)) [some (.loc p), some (rowsP S), some (rowsP O), some (rowsP P), some (.int i), some (tT o), some (rowsP ah), some (rowsP ot), some (.int j), some (tT sr), some (tT sg), none, some (.loc st.nxt), u13, some (rowsP fi), some (rowsP la)] s 20 := fun u13 s => ⟨P.getD j [], pjE u13 s, hPj⟩
  refine wp_seqK ?_
  intro K hK
  obtain ⟨L2, e1, zL2, mL2⟩ : IsR (dLst false (aCons (dVar 9) (aCons (dRvT (dBin opIx (dVar 3) (dVar 8))) (aCons (dVar 10) aNil)))) [some (.loc p), some (rowsP S), some (rowsP O), some (rowsP P), some (.int i), some (tT o), some (rowsP ah), some (rowsP ot), some (.int j), some (tT sr), some (tT sg), none, some (.loc st.nxt), u13, some (rowsP fi), some (rowsP la)] s 3 := by
    refine .lst (.cons (.var rfl (by omega)) (.cons ⟨(P.getD j []).reverse, ?_, by rw [List.length_reverse]; omega⟩ (.cons (.var rfl (by omega)) .nil))) (by omega)
    unfold dRvT
    rw [pjE, mb_some]
    show some (PV.tup ((P.getD j []).map PV.int).reverse, s) = _
    rw [← List.map_reverse]; rfl
  refine wp_mb (wp_eq (iSeq_rows e1) ?_)
  refine forGo_wp (its := ⟨L2.map tT, none⟩) (fun k env s => (∃ u13, env = [some (.loc p), some (rowsP S), some (rowsP O), some (rowsP P), some (.int i), some (tT o), some (rowsP ah), some (rowsP ot), some (.int j), some (tT sr), some (tT sg), none, some (.loc st.nxt), u13, some (rowsP fi), some (rowsP la)]) ∧ PX p st.nxt st s (10 + 2 * k)) _ (fun k x env s hx hI => ?_) (fun env s hI => ?_) ⟨⟨_, rfl⟩, F⟩
  · clear F e1
    obtain ⟨⟨u13, rfl⟩, F⟩ := hI
    obtain ⟨one, hone, hom, rfl⟩ := get_map hx
    have hk : k < L2.length := (List.getElem?_eq_some_iff.mp hone).1
    refine ⟨Its.ok_none, wp_eq rfl ?_⟩
    dsimp only [List.set_cons_zero, List.set_cons_succ]
    refine push_seq F rfl (.mk (.var rfl mO) (.add (.add (.var rfl mfi) (.lst (.cons (.var rfl (mL2 one hom)) .nil) (by omega)) (by omega)) (.var rfl mla) (by omega)) (by omega) (by omega)) (by omega) fun s' F' => ?_
    exact push_wp F' rfl (.mk (.add (.var rfl mO) (.lst (.cons (.var rfl (by omega)) .nil) (by omega)) (by omega)) (.add (.var rfl mP) (.lst (.cons (.var rfl (mL2 one hom)) .nil) (by omega)) (by omega)) (by omega) (by omega)) (by omega) fun s' F' => ⟨⟨_, rfl⟩, F'⟩
  clear F e1
  obtain ⟨⟨u13, rfl⟩, F⟩ := hI
  rw [show (Its.mk (L2.map tT) none).items.length = L2.length from List.length_map _] at F
  refine ⟨Its.ok_none, ?_⟩
  walk_at "nk"
  clear hK
  have F : PX p st.nxt st s 16 := by
    obtain ⟨X, a, b, c⟩ := F
    exact ⟨X, a, by omega, c⟩
  have up : ∀ {e : DE} {env : Env} {s : Sto} {n : Nat}, IsT e env s n → n ≤ 100 → IsT e env s 100 := fun h hn => by
    obtain ⟨a, b, c⟩ := h
    exact ⟨a, b, by omega⟩
  refine push_seq F rfl (.mk (.var rfl mO) (.add (.var rfl mfi) (.var rfl mla) (by omega)) (by omega) (by omega)) (by omega) fun s F => ?_
  refine push_seq F rfl (.mk (.add (.var rfl mO) (.lst (.cons (.var rfl (by omega)) .nil) (by omega)) (by omega)) (.add (.var rfl mP) (.lst (.cons (up (pj _ _) (by omega)) .nil) (by omega)) (by omega)) (by omega) (by omega)) (by omega) fun s F => ?_
  refine push_seq F rfl (.mk (.add (.var rfl mah) (.var rfl mot) (by omega)) (.add (.var rfl mfi) (.var rfl mla) (by omega)) (by omega) (by omega)) (by omega) fun s F => ?_
  refine push_seq F rfl (.mk (.add (.add (.var rfl mot) (.var rfl mah) (by omega)) (.lst (.cons (.var rfl (by omega)) .nil) (by omega)) (by omega)) (.add (.sl (.var rfl mP) (.some rfl) .none (by omega)) (.var rfl mfi) (by omega)) (by omega) (by omega)) (by omega) fun s F => ?_
  obtain ⟨X, F, z, m⟩ := F
  have blS : bList false [rowsP S] s = some (rowsP S, s) := bList_v rfl (by rw [List.length_map]; have := mS.1; omega)
  have lS : IsR (dApp (bList false) (aCons (dVar 1) aNil)) [some (.loc p), some (rowsP S), some (rowsP O), some (rowsP P), some (.int i), some (tT o), some (rowsP ah), some (rowsP ot), some (.int j), some (tT sr), some (tT sg), none, some (.loc st.nxt), u13, some (rowsP fi), some (rowsP la)] s 64 := ⟨S, blS, mS⟩
  obtain ⟨X2, e1, z2, m2⟩ : IsPs (aCons (dTup (aCons (dApp (bList false) (aCons (dVar 1) aNil)) (aCons (dApp (bList false) (aCons (dVar 1) aNil)) aNil))) (aCons (dTup (aCons (dLst false (aCons (dVar 10) aNil)) (aCons (dLst false (aCons (dVar 9) aNil)) aNil))) aNil)) [some (.loc p), some (rowsP S), some (rowsP O), some (rowsP P), some (.int i), some (tT o), some (rowsP ah), some (rowsP ot), some (.int j), some (tT sr), some (tT sg), none, some (.loc st.nxt), u13, some (rowsP fi), some (rowsP la)] s 2 :=
    .cons (.mk lS lS (by omega) (by omega)) (.cons (.mk (.lst (.cons (.var rfl (by omega)) .nil) (by omega)) (.lst (.cons (.var rfl (by omega)) .nil) (by omega)) (by omega) (by omega)) .nil)
  have e2 : (dBin (opAdd false) (dVar 12) (dLst false (aCons (dTup (aCons (dApp (bList false) (aCons (dVar 1) aNil)) (aCons (dApp (bList false) (aCons (dVar 1) aNil)) aNil))) (aCons (dTup (aCons (dLst false (aCons (dVar 10) aNil)) (aCons (dLst false (aCons (dVar 9) aNil)) aNil))) aNil)))) [some (.loc p), some (rowsP S), some (rowsP O), some (rowsP P), some (.int i), some (tT o), some (rowsP ah), some (rowsP ot), some (.int j), some (tT sr), some (tT sg), none, some (.loc st.nxt), u13, some (rowsP fi), some (rowsP la)] s = some (.lst ((X ++ X2).map prPV), s) := by
    have e3 := (dLst_eq (m := false) e1).trans (mkV_eq (okL (by rw [List.length_map]; omega)))
    unfold dBin
    rw [show dVar 12 [some (.loc p), some (rowsP S), some (rowsP O), some (rowsP P), some (.int i), some (tT o), some (rowsP ah), some (rowsP ot), some (.int j), some (tT sr), some (tT sg), none, some (.loc st.nxt), u13, some (rowsP fi), some (rowsP la)] s = some (.loc st.nxt, s) from rfl, mb_some]
    refine Eq.trans (b := opAdd false (.loc st.nxt) (.lst (X2.map prPV)) s) ?_ ?_
    · show mb (dLst false _ _ s) _ = _
      rw [e3, mb_some]
    refine (add_loc F.at' rfl).trans ((mkV_eq (okL (by rw [List.length_append, List.length_map, List.length_map]; omega))).trans ?_)
    rw [← List.map_append]
  unfold sRet
  refine wp_mb (wp_eq e2 (wp_eq rfl ?_))
  refine wp_eq (fin_val (by rw [lb_lst]; exact prs_lb _)) ?_
  refine q _ _ (fun x hx => ?_) (by rw [List.length_append]; omega) F.drx.2
  rcases List.mem_append.mp hx with hx | hx
  · exact m x hx
  · exact m2 x hx
end DL

namespace DL
open PySem L2
local macro_rules | `(tactic| walk_at "go") => `(tactic| repeat (first | refine wp_mb ?_ | with_reducible refine wp_mul (by first | assumption | (exact okMul_iff.mpr (by omega))) ?_ | with_reducible refine wp_mod (by first | assumption | (exact okMod_iff.mpr (by omega))) ?_ | with_reducible refine wp_div (by first | assumption | (exact okDiv_iff.mpr (by omega))) ?_ | with_reducible refine wp_pow (by first | assumption | (exact okPow_iff.mpr (by decide))) ?_ | ((with_reducible refine wp_set ?_ ?_ ?_); (focus rfl); (focus first | exact tT_lb | exact lb_int _ _ | exact lb_bl _ _ | exact lb_non _ | assumption)) | refine wp_eq rfl ?_))
local macro_rules | `(tactic| walk_at "st") => `(tactic| ((first | (refine wp_seqK ?_; intro K hK) | skip); walk_at "go"))
local macro_rules | `(tactic| walk_at "nx") => `(tactic| ((try dsimp only [List.set_cons_zero, List.set_cons_succ]); refine wp_nx (by assumption) ?_; walk_at "st"))
local macro_rules | `(tactic| walk_at "nk") => `(tactic| ((try dsimp only [List.set_cons_zero, List.set_cons_succ]); refine wp_nx (by assumption) ?_))
/-! W11 of k11: pairs, columns, shuffled, free -/
theorem pair_wp {p : Nat} {st : Sto} {S O P : List (List Int)} {Q : PV → Sto → Prop} (h : Pool p st) (B : Base S O P) (hS : ∀ s ∈ S, s.Pairwise (· < ·))
    (q : ∀ st', Dr p st st' → Q (.bl true) st') : wp (f_law_pair_right [.loc p, rowsP S, rowsP O, rowsP P] st) Q := by
  have mS := modB B.s
  have mO := modB B.o
  have mP := modB B.p
  unfold f_law_pair_right
  refine wp_runF rfl ?_
  show wp (D_law_pair_right [some (.loc p), some (rowsP S), some (rowsP O), some (rowsP P), none] st) _
  unfold D_law_pair_right
  refine wp_seqK ?_
  intro K hK
  walk_at "go"
  refine spoilt_wp h B fun X s1 hX hXz d => ?_
  refine wp_set (by rw [d.nxt]) (by rw [lb_lst]; exact prs_lb _) ?_
  refine wp_eq (a := .lst (((O, P) :: X).map prPV)) (s := s1) ?_ ?_
  · exact (add_lst (a := [prPV (O, P)]) (b := X.map prPV) rfl).trans (mkV_eq (okL (by rw [List.length_append, List.length_map]; show 1 + X.length ≤ 1000000; omega)))
  walk_at "go"
  refine for_all_wp (its := ⟨((O, P) :: X).map prPV, none⟩) Its.ok_none false (fun env => ∃ u4, env = [some (.loc p), some (rowsP S), some (rowsP O), some (rowsP P), u4]) (fun _ => true) (fun k x env hx hI => ?_) ⟨_, rfl⟩ (fun h env hP => ?_) (fun h => ?_)
  · obtain ⟨u4, rfl⟩ := hI
    obtain ⟨y, _, hym, rfl⟩ := get_map hx
    have hy : ModP y := by
      rcases List.mem_cons.mp hym with rfl | hy
      · exact ⟨mO.mono (by omega), mP.mono (by omega)⟩
      · exact hX y hy
    refine wp_eq rfl ?_
    walk_at "go"
    refine wp_eq (law_judged_eq (S := S) (O := y.1) (P := y.2) (fun s hs => ⟨hS s hs, Nat.le_trans (mS.2 s hs) (by omega)⟩) (Nat.le_trans mS.1 (by omega)) rfl rfl (fun o ho => Nat.le_trans (hy.1.2 o ho) (by omega)) hy.2.1 (fun o ho => Nat.le_trans (hy.2.2 o ho) (by omega))) ?_
    walk_at "go"
    refine wp_eq (law_shown_eq (mS.mono (by omega)) hy.1 hy.2) ?_
    walk_at "go"
    exact ⟨rfl, _, rfl, _, rfl⟩
  · obtain ⟨u4, rfl⟩ := hP
    walk_at "nk"
    walk_at "go"
    rw [d.restr]
    exact q _ d
  · rw [List.all_eq_true.mpr (fun _ _ => rfl)] at h
    cases h
def cols (n : Int) : List Int := ((List.range 6).filter fun c => decide (n / ([1, 2, 4, 8, 16, 32] : List Int).getD c 0 % 2 = 1)).map fun (c : Nat) => (c : Int)
theorem cols_srch (n : Int) : Srch (cols n) := by
  unfold cols
  refine ⟨List.pairwise_map.mpr ((List.Pairwise.filter _ List.pairwise_lt_range).imp fun h => by omega), fun c hc => ?_⟩
  obtain ⟨k, hk, rfl⟩ := List.mem_map.mp hc
  have := List.mem_range.mp (List.mem_filter.mp hk).1
  omega
theorem cols_nd : ((List.range 64).map fun (k : Nat) => cols (k : Int)).Nodup := by decide +kernel
theorem cols_inj {x y : Int} (hx : 0 ≤ x ∧ x < 64) (hy : 0 ≤ y ∧ y < 64) (h : cols x = cols y) : x = y := by
  obtain ⟨i, rfl⟩ := Int.eq_ofNat_of_zero_le hx.1
  obtain ⟨j, rfl⟩ := Int.eq_ofNat_of_zero_le hy.1
  have hn := List.pairwise_iff_getElem.mp cols_nd
  have go : ∀ i j : Nat, i < j → j < 64 → cols (i : Int) ≠ cols (j : Int) := fun i j hij hj => by
    have := hn i j (by rw [List.length_map, List.length_range]; omega) (by rw [List.length_map, List.length_range]; omega) hij
    rwa [List.getElem_map, List.getElem_map, List.getElem_range, List.getElem_range] at this
  by_cases e : i = j
  · rw [e]
  · by_cases q : i < j
    · exact absurd h (go i j q (by omega))
    · exact absurd h.symm (go j i (by omega) (by omega))
theorem law_columns_eq {n : Int} {st : Sto} : f_law_columns [.int n] st = some (tT (cols n), st) := by
  unfold f_law_columns
  refine runF_eq rfl tT_lb ?_
  show wp (D_law_columns [some (.int n), none] st) _
  unfold D_law_columns
  walk_at "go"
  refine wp_pos (okRng_iff.mpr ⟨by decide, by decide⟩) ?_
  walk_at "go"
  refine wp_eq (lc_at (its := ⟨rng 0 ((6 : Nat) : Int), none⟩) Its.ok_none (fun c => decide (n / ([1, 2, 4, 8, 16, 32] : List Int).getD c 0 % 2 = 1)) nI (fun k x hx => ?_)) ?_
  · obtain ⟨hk, rfl⟩ := rng_at hx
    refine wp_eq rfl ⟨rfl, ?_⟩
    have : k = 0 ∨ k = 1 ∨ k = 2 ∨ k = 3 ∨ k = 4 ∨ k = 5 := by omega
    rcases this with rfl | rfl | rfl | rfl | rfl | rfl <;>
    · walk_at "go"
      rw [eqv_int]
      refine ⟨rfl, ?_, fun _ => wp_eq rfl ⟨rfl, rfl⟩⟩
      rw [Bool.bne_false]
      rfl
  rw [rng_len]
  have e : ((List.range 6).filter fun c => decide (n / ([1, 2, 4, 8, 16, 32] : List Int).getD c 0 % 2 = 1)).map nI = (cols n).map .int := by
    unfold cols
    rw [List.map_map]
    rfl
  rw [e]
  have hl := (cols_srch n).len
  refine wp_eq (mkV_eq (okL (by rw [List.length_map]; omega))) ?_
  walk_at "go"
  refine wp_eq (bTuple_lst (by rw [List.length_map]; omega)) ?_
  walk_at "go"
  exact ⟨rfl, rfl⟩
theorem pop_map {α : Type} {f : α → PV} {l : Nat} {s : Sto} {R : List α} {k : Nat} (h : s.cs l = some (.lst (R.map f))) (hk : k < R.length) (hz : R.length ≤ 1000000) : mPopAt l [.int (k : Int)] s = some (f R[k], s.set l (.lst ((R.eraseIdx k).map f))) := by
  show (match s.cs l with | some (.lst xs) => (match seqIndex? (k : Int) xs.length with | some j => (match xs[j]? with | some y => (if okRng (k : Int) then some (y, s.set l (.lst (xs.eraseIdx j))) else none) | none => none) | none => none) | _ => none) = _
  rw [h]
  show (match seqIndex? (k : Int) (R.map f).length with | some j => (match (R.map f)[j]? with | some y => (if okRng (k : Int) then some (y, s.set l (.lst ((R.map f).eraseIdx j))) else none) | none => none) | none => none) = _
  rw [seqIndex_of (by omega) (by rw [List.length_map]; omega), Int.toNat_natCast]
  show (match (R.map f)[k]? with | some y => (if okRng (k : Int) then some (y, s.set l (.lst ((R.map f).eraseIdx k))) else none) | none => none) = _
  rw [List.getElem?_map, List.getElem?_eq_getElem hk]
  show (if okRng (k : Int) then some (f R[k], s.set l (.lst ((R.map f).eraseIdx k))) else none) = _
  rw [okR (by omega), if_pos rfl, List.eraseIdx_eq_take_drop_succ, List.eraseIdx_eq_take_drop_succ, List.map_append, List.map_take, List.map_drop]
theorem erase_perm {α : Type} {R : List α} {k : Nat} (hk : k < R.length) : (R[k] :: R.eraseIdx k).Perm R := by
  rw [List.eraseIdx_eq_take_drop_succ]
  refine List.perm_middle.symm.trans ?_
  rw [← List.drop_eq_getElem_cons hk, List.take_append_drop]
theorem shuffled_wp {p : Nat} {st : Sto} {v : PV} {a : List Int} {Q : PV → Sto → Prop} (h : Pool p st) (hv : ∀ s, seqOf s v = some (a.map .int)) (hz : a.length ≤ 1000) (q : ∀ b st', b.Perm a → Dr p st st' → Q (tT b) st') : wp (f_law_shuffled [.loc p, v] st) Q := by
  unfold f_law_shuffled
  refine wp_runF rfl ?_
  show wp (D_law_shuffled [some (.loc p), some v, none, none, none] st) _
  unfold D_law_shuffled
  refine wp_seqK ?_
  intro K hK
  walk_at "go"
  have e0 : bList true [v] st = some (.loc st.nxt, st.alloc (.lst (a.map .int))) := by
    show (match seqOf st v with | some xs => mkL true xs st | none => none) = _
    rw [hv st]
    exact mkM_eq (okL (by rw [List.length_map]; omega)) (lbs_map (fun i => lb_int _ i) a)
  refine wp_eq e0 ?_
  walk_at "go"
  walk_at "nx"
  walk_at "nk"
  clear hK
  have F0 : PL p st.nxt st (st.alloc (.lst (a.map .int))) (.lst (a.map .int)) := PL.new h ints_lb
  refine wp_seqK ?_
  intro K hK
  walk_at "go"
  refine wp_eq (seq_len (hv _)) ?_
  rw [List.length_map]
  walk_at "go"
  refine wp_pos (okR (by omega)) ?_
  walk_at "go"
  refine forGo_wp (its := ⟨rng 0 (a.length : Int), none⟩) (fun k env s => ∃ b ot u4, env = [some (.loc p), some v, some (.loc st.nxt), some (tT b), u4] ∧ PL p st.nxt st s (.lst (ot.map .int)) ∧ (b ++ ot).Perm a ∧ b.length = k) _ (fun k x env s hx hI => ?_) (fun env s hI => ?_) ⟨[], a, _, rfl, F0, List.Perm.refl _, rfl⟩
  · obtain ⟨b, ot, u4, rfl, F, hp, hb⟩ := hI
    obtain ⟨hk, rfl⟩ := rng_at hx
    have hl := hp.length_eq
    rw [List.length_append] at hl
    refine ⟨Its.ok_none, wp_eq rfl ?_⟩
    walk_at "go"
    refine wp_eq (loc_asL F.at') ?_
    walk_at "go"
    refine wp_eq (loc_len F.at') ?_
    rw [List.length_map]
    walk_at "go"
    refine draw_wp F.pool (by omega) fun r s1 r0 r1 d => ?_
    refine wp_set (by rw [d.nxt]) (lb_int _ _) ?_
    obtain ⟨i, rfl⟩ := Int.eq_ofNat_of_zero_le r0
    have hi : i < ot.length := by omega
    have F1 := F.dr d
    walk_at "go"
    refine wp_eq (pop_map F1.at' hi (by omega)) ?_
    walk_at "go"
    refine wp_eq (add_tT (b := [ot[i]]) (by show b.length + 1 ≤ 1000000; omega)) ?_
    walk_at "go"
    refine ⟨b ++ [ot[i]], ot.eraseIdx i, _, rfl, F1.put ints_lb, ?_, by rw [List.length_append, hb]; rfl⟩
    rw [List.append_assoc]
    exact ((erase_perm hi).append_left b).trans hp
  · obtain ⟨b, ot, u4, rfl, F, hp, hb⟩ := hI
    rw [rng_len] at hb
    have hl := hp.length_eq
    rw [List.length_append] at hl
    have : ot = [] := List.length_eq_zero_iff.mp (by omega)
    subst this
    rw [List.append_nil] at hp
    refine ⟨Its.ok_none, ?_⟩
    walk_at "nk"
    walk_at "go"
    refine wp_eq (fin_val tT_lb) ?_
    exact q b _ hp F.drx.2
theorem free_many {N : List Int} {n0 : Int} (h : N.length < 64) : ∃ j : Nat, j < 64 ∧ (n0 + (j : Int)) % 64 ∉ N := by
  refine Classical.byContradiction fun hc => ?_
  have hall : ∀ j : Nat, j < 64 → (n0 + (j : Int)) % 64 ∈ N := fun j hj => Classical.byContradiction fun h => hc ⟨j, hj, h⟩
  have := nodup_len (a := (List.range 64).map fun (j : Nat) => (n0 + (j : Int)) % 64) (b := N) (nodup_map List.nodup_range fun x hx y hy e => ?_) fun x hx => ?_
  · rw [List.length_map, List.length_range] at this
    omega
  · have := List.mem_range.mp hx
    have := List.mem_range.mp hy
    have e : (n0 + (x : Int)) % 64 = (n0 + (y : Int)) % 64 := e
    omega
  · obtain ⟨j, hj, rfl⟩ := List.mem_map.mp hx
    exact hall j (List.mem_range.mp hj)
theorem lfree_wp {p : Nat} {st : Sto} {many : Nat} {Q : PV → Sto → Prop} (h : Pool p st) (hm : many ≤ 40) (q : ∀ (N : List Int) st', N.Nodup → (∀ x ∈ N, (0 : Int) ≤ x ∧ x < 64) → N.length = many → Dr p st st' → Q (rowsP (N.map cols)) st') : wp (f_law_free [.loc p, .int (many : Int)] st) Q := by
  unfold f_law_free
  refine wp_runF rfl ?_
  show wp (D_law_free [some (.loc p), some (.int (many : Int)), none, none, none, none] st) _
  unfold D_law_free
  walk_at "st"
  walk_at "nk"
  have F0 : PL p st.nxt st (st.alloc (.lst (([] : List Int).map .int))) (.lst (([] : List Int).map .int)) := PL.new h ints_lb
  refine wp_seqK ?_
  intro K hK
  walk_at "go"
  refine wp_pos (okR (by omega)) ?_
  walk_at "go"
  refine forGo_wp (its := ⟨rng 0 (many : Int), none⟩) (fun k env s => ∃ (N : List Int) (u3 u4 u5 : Option PV), env = [some (.loc p), some (.int (many : Int)), some (.loc st.nxt), u3, u4, u5] ∧ PL p st.nxt st s (.lst (N.map .int)) ∧ N.Nodup ∧ (∀ x ∈ N, (0 : Int) ≤ x ∧ x < 64) ∧ N.length = k) _ (fun k x env s hx hI => ?_) (fun env s hI => ?_) ⟨[], _, _, _, rfl, F0, List.nodup_nil, fun x h => (by cases h), rfl⟩
  · obtain ⟨N, u3, u4, u5, rfl, F, hnd, hN, hNl⟩ := hI
    obtain ⟨hk, rfl⟩ := rng_at hx
    refine ⟨Its.ok_none, wp_eq rfl ?_⟩
    refine wp_seqK ?_
    intro K2 hK2
    walk_at "go"
    refine draw_wp F.pool (by decide) fun n0 s1 r0 r1 d => ?_
    refine wp_set (by rw [d.nxt]) (lb_int _ _) ?_
    have F1 := F.dr d
    walk_at "go"
    walk_at "nk"
    refine wp_seqK ?_
    intro K3 hK3
    walk_at "go"
    refine wp_pos (okRng_iff.mpr ⟨by decide, by decide⟩) ?_
    walk_at "go"
    have sv : seqOf s1 (.loc st.nxt) = some (N.map .int) := loc_seq F1.at'
    refine forGo_wp (its := ⟨rng 0 ((64 : Nat) : Int), none⟩) (fun t env s => s = s1 ∧ (∃ u5, env = [some (.loc p), some (.int (many : Int)), some (.loc st.nxt), some (.int (k : Int)), some (.int ((n0 + (t : Int)) % 64)), u5]) ∧ ∀ j : Nat, j < t → (n0 + (j : Int)) % 64 ∈ N) _ (fun t x env s hx hI => ?_) (fun env s hI => ?_) ⟨rfl, ⟨_, by rw [show (n0 + ((0 : Nat) : Int)) % 64 = n0 by omega]⟩, fun j hj => absurd hj (Nat.not_lt_zero _)⟩
    · obtain ⟨rfl, ⟨u5, rfl⟩, hj⟩ := hI
      obtain ⟨ht, rfl⟩ := rng_at hx
      refine ⟨Its.ok_none, wp_eq rfl ?_⟩
      walk_at "go"
      refine wp_eq (cmpIn_ints sv) ?_
      cases hc : N.contains ((n0 + (t : Int)) % 64) with
      | true =>
        walk_at "go"
        refine ⟨rfl, ⟨some (.int (t : Int)), ?_⟩, fun j hjt => ?_⟩
        · show [some (PV.loc p), some (.int (many : Int)), some (.loc st.nxt), some (.int (k : Int)), some (.int (((n0 + (t : Int)) % 64 + 1) % 64)), some (.int (t : Int))] = _
          rw [show ((n0 + (t : Int)) % 64 + 1) % 64 = (n0 + ((t + 1 : Nat) : Int)) % 64 by omega]
        · by_cases e : j = t
          · subst e; exact List.contains_iff_mem.mp hc
          · exact hj j (by omega)
      | false =>
        walk_at "go"
        walk_at "nk"
        walk_at "go"
        refine wp_eq (loc_asL F1.at') ?_
        walk_at "go"
        refine wp_eq (loc_append F1.at' (by rw [List.length_map]; exact ltL (Nat.le_refl _) (by omega)) (lb_int _ _)) ?_
        walk_at "go"
        have hni : (n0 + (t : Int)) % 64 ∉ N := fun h => by
          rw [List.contains_iff_mem.mpr h] at hc
          cases hc
        refine ⟨N ++ [(n0 + (t : Int)) % 64], _, _, _, rfl, ?_, ?_, fun x hx => ?_, by rw [List.length_append, hNl]; rfl⟩
        · have := F1.put (c' := .lst ((N ++ [(n0 + (t : Int)) % 64]).map .int)) ints_lb
          rw [List.map_append] at this ⊢
          exact this
        · refine List.nodup_append.mpr ⟨hnd, List.nodup_cons.mpr ⟨by simp, List.nodup_nil⟩, fun a ha b hb e => ?_⟩
          rw [List.mem_singleton] at hb
          subst hb
          exact hni (e ▸ ha)
        · rcases List.mem_append.mp hx with hx | hx
          · exact hN x hx
          · rw [List.mem_singleton.mp hx]
            omega
    · obtain ⟨rfl, _, hj⟩ := hI
      rw [rng_len] at hj
      obtain ⟨j, h1, h2⟩ := free_many (N := N) (n0 := n0) (by omega)
      exact absurd (hj j h1) h2
  · obtain ⟨N, u3, u4, u5, rfl, F, hnd, hN, hNl⟩ := hI
    rw [rng_len] at hNl
    refine ⟨Its.ok_none, ?_⟩
    walk_at "nk"
    walk_at "go"
    have ei : itsOf (.loc st.nxt) s = some (⟨N.map .int, some (st.nxt, .lst (N.map .int))⟩, s) := by
      show (match s.cs st.nxt with | some (.lst xs) => some (Its.mk xs (some (st.nxt, .lst xs)), s) | _ => none) = _
      rw [F.at']
    refine wp_eq ei ?_
    walk_at "go"
    refine wp_eq (lc_items (its := ⟨N.map .int, some (st.nxt, .lst (N.map .int))⟩) ((N.map cols).map tT) (Its.ok_some F.at') (by rw [List.length_map, List.length_map]; exact (List.length_map _).symm) (fun j x hx => ?_)) ?_
    · obtain ⟨c, hc, _, rfl⟩ := get_map hx
      refine ⟨_, tT (cols c), rfl, by rw [List.map_map, List.getElem?_map, hc]; rfl, eq_of_wp ?_⟩
      walk_at "go"
      refine wp_eq law_columns_eq ?_
      walk_at "go"
      exact ⟨rfl, rfl⟩
    refine wp_eq (mkV_eq (okL (by rw [List.length_map, List.length_map]; omega))) ?_
    walk_at "go"
    refine wp_eq (fin_val (by rw [lb_lst]; exact rows_lb _)) ?_
    exact q N _ hnd hN hNl F.drx.2
end DL

namespace DL
open PySem L2
local macro_rules | `(tactic| walk_at "go") => `(tactic| repeat (first | refine wp_mb ?_ | with_reducible refine wp_mul (by first | assumption | (exact okMul_iff.mpr (by omega))) ?_ | with_reducible refine wp_mod (by first | assumption | (exact okMod_iff.mpr (by omega))) ?_ | with_reducible refine wp_div (by first | assumption | (exact okDiv_iff.mpr (by omega))) ?_ | with_reducible refine wp_pow (by first | assumption | (exact okPow_iff.mpr (by decide))) ?_ | ((with_reducible refine wp_set ?_ ?_ ?_); (focus rfl); (focus first | exact tT_lb | exact lb_int _ _ | exact lb_bl _ _ | exact lb_non _ | assumption)) | refine wp_eq rfl ?_))
local macro_rules | `(tactic| walk_at "st") => `(tactic| ((first | (refine wp_seqK ?_; intro K hK) | skip); walk_at "go"))
local macro_rules | `(tactic| walk_at "nx") => `(tactic| ((try dsimp only [List.set_cons_zero, List.set_cons_succ]); refine wp_nx (by assumption) ?_; walk_at "st"))
local macro_rules | `(tactic| walk_at "nk") => `(tactic| ((try dsimp only [List.set_cons_zero, List.set_cons_succ]); refine wp_nx (by assumption) ?_))
/-! W12 of k11: a known answer -/
theorem cutG_from {α : Type} {xs : List α} {k : Nat} (h : k ≤ xs.length) : cutG xs (some (k : Int)) none = xs.drop k := by
  unfold cutG
  rw [sIx_to, Nat.min_eq_left h, show HT.sIx xs.length xs.length none = xs.length from rfl]
  exact List.take_of_length_le (by rw [List.length_drop]; omega)
theorem cutG_to {α : Type} {xs : List α} {k : Nat} (h : k ≤ xs.length) : cutG xs none (some (k : Int)) = xs.take k := by
  unfold cutG
  rw [sIx_to, Nat.min_eq_left h, show HT.sIx xs.length 0 none = 0 from rfl]
  rfl
theorem cutG_sub {α : Type} (l : List α) (lo hi : Option Int) : (cutG l lo hi).Sublist l := (List.take_sublist _ _).trans (List.drop_sublist _ _)
structure K3 (p : Nat) (st s : Sto) (Lv O A : List (List Int)) : Prop where
  pool : Pool p s
  drx : Drx p st s
  cl : s.cs st.nxt = some (.lst (Lv.map tT))
  co : s.cs (st.nxt + 1) = some (.lst (O.map tT))
  ca : s.cs (st.nxt + 2) = some (.lst (A.map tT))
  hp : p < st.nxt
namespace K3
variable {p : Nat} {st s s' : Sto} {Lv O A X : List (List Int)}
theorem dr (h : K3 p st s Lv O A) (d : Dr p s s') : K3 p st s' Lv O A := by
  have := h.hp
  exact ⟨h.pool.dr d, h.drx.dr h.pool h.hp d, by rw [d.get (by omega)]; exact h.cl, by rw [d.get (by omega)]; exact h.co, by rw [d.get (by omega)]; exact h.ca, h.hp⟩
theorem put0 (h : K3 p st s Lv O A) : K3 p st (s.set st.nxt (.lst (X.map tT))) X O A := by
  have := h.hp
  exact ⟨h.pool.set (by omega), h.drx.set (Nat.le_refl _), Sto.set_get h.cl (rows_lb _), by rw [Sto.set_ne (by omega)]; exact h.co, by rw [Sto.set_ne (by omega)]; exact h.ca, h.hp⟩
theorem put1 (h : K3 p st s Lv O A) : K3 p st (s.set (st.nxt + 1) (.lst (X.map tT))) Lv X A := by
  have := h.hp
  exact ⟨h.pool.set (by omega), h.drx.set (by omega), by rw [Sto.set_ne (by omega)]; exact h.cl, Sto.set_get h.co (rows_lb _), by rw [Sto.set_ne (by omega)]; exact h.ca, h.hp⟩
theorem put2 (h : K3 p st s Lv O A) : K3 p st (s.set (st.nxt + 2) (.lst (X.map tT))) Lv O X := by
  have := h.hp
  exact ⟨h.pool.set (by omega), h.drx.set (by omega), by rw [Sto.set_ne (by omega)]; exact h.cl, by rw [Sto.set_ne (by omega)]; exact h.co, Sto.set_get h.ca (rows_lb _), h.hp⟩
theorem at3 (h : K3 p st s Lv O A) : st.nxt + 3 ≤ s.nxt := Sto.lt_of h.ca
theorem put3 (h : K3 p st s Lv O A) {l : Nat} (hl : st.nxt + 3 ≤ l) {c : Cell} : K3 p st (s.set l c) Lv O A := by
  have := h.hp
  exact ⟨h.pool.set (by omega), h.drx.set (by omega), by rw [Sto.set_ne (by omega)]; exact h.cl, by rw [Sto.set_ne (by omega)]; exact h.co, by rw [Sto.set_ne (by omega)]; exact h.ca, h.hp⟩
theorem alloc (h : K3 p st s Lv O A) {c : Cell} : K3 p st (s.alloc c) Lv O A := by
  have := h.at3
  exact ⟨h.pool.alloc, h.drx.alloc, by rw [Sto.alloc_ne (by omega)]; exact h.cl, by rw [Sto.alloc_ne (by omega)]; exact h.co, by rw [Sto.alloc_ne (by omega)]; exact h.ca, h.hp⟩
end K3
theorem push_row {l : Nat} {s : Sto} {X : List (List Int)} {x : List Int} (h : s.cs l = some (.lst (X.map tT))) (hz : X.length ≤ 1000) : mAppend l [tT x] s = some (.non, s.set l (.lst ((X ++ [x]).map tT))) := by
  rw [loc_append h (by rw [List.length_map]; exact ltL hz (by omega)) tT_lb, List.map_append]
  rfl
def levelL (z : Nat) : List (List Int) := ((List.range 64).filter fun (j : Nat) => decide ((cols (j : Int)).length = z)).map fun (j : Nat) => cols (j : Int)
theorem level_pos : ∀ z, z < 7 → 0 < (levelL z).length := by decide +kernel
theorem level_nd (z : Nat) : (levelL z).Nodup := (List.Sublist.map _ List.filter_sublist).nodup cols_nd
theorem level_le (z : Nat) : (levelL z).length ≤ 64 := by
  unfold levelL
  rw [List.length_map]
  exact Nat.le_trans (List.length_filter_le _ _) (by rw [List.length_range]; exact Nat.le_refl _)
theorem level_mem {z : Nat} {s : List Int} (h : s ∈ levelL z) : Srch s ∧ s.length = z := by
  obtain ⟨j, hj, rfl⟩ := List.mem_map.mp h
  exact ⟨cols_srch _, of_decide_eq_true (List.mem_filter.mp hj).2⟩
theorem sortI_srch {a : List Int} (h : a.Nodup) (hc : ∀ c ∈ a, 0 ≤ c ∧ c ≤ 5) : Srch (sortI a) := by
  refine ⟨?_, fun c hx => hc c ((sortI_perm a).mem_iff.mp hx)⟩
  have h1 : (sortI a).Pairwise (· ≤ ·) := by
    have := List.pairwise_mergeSort (le := fun (x y : Int) => decide (x ≤ y)) (fun a b c h1 h2 => by simp only [decide_eq_true_eq] at *; omega) (fun a b => by simp only [Bool.or_eq_true, decide_eq_true_eq]; omega) a
    exact this.imp fun h => of_decide_eq_true h
  have h2 : (sortI a).Nodup := (sortI_perm a).nodup_iff.mpr h
  exact (h1.and h2).imp fun h => by
    have := h.1
    have := h.2
    omega
/-- a known order for one search -/
theorem made_order {x b bh : List Int} {k : Option Int} (hx : Srch x) (hb : b.Perm x) (hbh : bh.Perm (((List.range 6).filter fun (c : Nat) => !x.contains (c : Int)).map fun (c : Nat) => (c : Int))) :
    (b ++ cutG bh none k).Nodup ∧ (∀ c ∈ b ++ cutG bh none k, 0 ≤ c ∧ c ≤ 5) ∧ servB (b ++ cutG bh none k) x = true := by
  have m1 : ∀ c ∈ cutG bh none k, (0 ≤ c ∧ c ≤ 5) ∧ c ∉ x := fun c hc => by
    obtain ⟨j, hj, rfl⟩ := List.mem_map.mp (hbh.mem_iff.mp (cutG_mem hc))
    obtain ⟨h1, h2⟩ := List.mem_filter.mp hj
    have := List.mem_range.mp h1
    refine ⟨by omega, fun h => ?_⟩
    rw [List.contains_iff_mem.mpr h] at h2
    cases h2
  have nb : bh.Nodup := hbh.nodup_iff.mpr (nodup_map (List.nodup_range.filter _) fun i _ j _ e => by
    have e : (i : Int) = (j : Int) := e
    omega)
  refine ⟨List.nodup_append.mpr ⟨hb.nodup_iff.mpr hx.nodup, (cutG_sub _ _ _).nodup nb, fun a ha c hc e => ?_⟩, fun c hc => ?_, ?_⟩
  · subst e
    exact (m1 a hc).2 (hb.mem_iff.mp ha)
  · rcases List.mem_append.mp hc with hc | hc
    · exact hx.2 c (hb.mem_iff.mp hc)
    · exact (m1 c hc).1
  · rw [serv_iff, List.take_append_of_le_length (by rw [hb.length_eq]; exact Nat.le_refl _), List.take_of_length_le (by rw [hb.length_eq]; exact Nat.le_refl _)]
    exact ⟨hb.length_eq, fun c hc => hb.mem_iff.mpr hc⟩
/-- the searches of a known answer -/
structure Kno (O A Sr : List (List Int)) : Prop where
  ok : ∀ s ∈ Sr, Srch s
  nd : Sr.Nodup
  ln : Sr.length ≤ 40
  sv : ∀ s ∈ Sr, ∃ o ∈ O, servB o s = true
  ap : ∀ a ∈ A, a ∈ Sr
theorem Kno.more {O A Sr : List (List Int)} {o : List Int} {k : Nat} (h : Kno O A Sr) (ho : o ∈ O) (hn : o.Nodup) (hc : ∀ c ∈ o, 0 ≤ c ∧ c ≤ 5) (hl : Sr.length < 40) (hm : sortI (o.take k) ∉ Sr) : Kno O A (Sr ++ [sortI (o.take k)]) where
  ok s hs := by
    rcases List.mem_append.mp hs with hs | hs
    · exact h.ok s hs
    · rw [List.mem_singleton.mp hs]
      exact sortI_srch ((List.take_sublist _ _).nodup hn) fun c hx => hc c (List.mem_of_mem_take hx)
  nd := by
    refine List.nodup_append.mpr ⟨h.nd, List.nodup_cons.mpr ⟨by simp, List.nodup_nil⟩, fun a ha b hb e => ?_⟩
    rw [List.mem_singleton] at hb
    subst hb
    exact hm (e ▸ ha)
  ln := by rw [List.length_append]; show Sr.length + 1 ≤ 40; omega
  sv s hs := by
    rcases List.mem_append.mp hs with hs | hs
    · exact h.sv s hs
    · rw [List.mem_singleton.mp hs]
      refine ⟨o, ho, serv_iff.mpr ?_⟩
      have e0 : (sortI (o.take k)).length = min k o.length := by rw [(sortI_perm _).length_eq, List.length_take]
      have : o.take (min k o.length) = o.take k := by
        by_cases q : k ≤ o.length
        · rw [Nat.min_eq_left q]
        · rw [Nat.min_eq_right (by omega), List.take_length, List.take_of_length_le (by omega)]
      rw [e0, this, List.length_take]
      exact ⟨rfl, fun c hc => (sortI_perm _).mem_iff.mp hc⟩
  ap a ha := List.mem_append_left _ (h.ap a ha)
theorem Kno.judge {O A Sr S Lv : List (List Int)} {z : Nat} (h : Kno O A Sr) (hp : (A ++ Lv).Perm (levelL z)) (hl : O.length = A.length) (ho : ∀ o ∈ O, o.Nodup ∧ ∀ c ∈ o, 0 ≤ c ∧ c ≤ 5) (hS : ∀ s, s ∈ Sr ↔ s ∈ S) : DL.judge S O A = true := by
  refine judge_same hS (judge_iff.mpr ⟨fun o hx => ordB_of (ho o hx).1 (ho o hx).2, h.sv, apB_iff.mpr ⟨h.ap, fun i j hi hj hij => ?_⟩, hl⟩)
  have hA : ∀ a ∈ A, Srch a ∧ a.length = z := fun a ha => level_mem (hp.mem_iff.mp (List.mem_append_left _ ha))
  have nA : A.Nodup := (List.sublist_append_left A Lv).nodup (hp.nodup_iff.mpr (level_nd z))
  cases e : has A[i] A[j] with
  | false => rfl
  | true =>
    have a1 := hA _ (List.getElem_mem hi)
    have a2 := hA _ (List.getElem_mem hj)
    have hs := has_iff.mp e
    have := asc_ext a2.1.1 a1.1.1 fun c => ⟨hs c, fun hc => nodup_back a2.1.nodup hs (by omega) hc⟩
    by_cases q : i < j
    · exact absurd this.symm ((List.pairwise_iff_getElem.mp nA) i j hi hj q)
    · exact absurd this ((List.pairwise_iff_getElem.mp nA) j i hj hi (by omega))
end DL

namespace DL
open PySem L2
local macro_rules | `(tactic| walk_at "go") => `(tactic| repeat (first | refine wp_mb ?_ | with_reducible refine wp_mul (by first | assumption | (exact okMul_iff.mpr (by omega))) ?_ | with_reducible refine wp_mod (by first | assumption | (exact okMod_iff.mpr (by omega))) ?_ | with_reducible refine wp_div (by first | assumption | (exact okDiv_iff.mpr (by omega))) ?_ | with_reducible refine wp_pow (by first | assumption | (exact okPow_iff.mpr (by decide))) ?_ | ((with_reducible refine wp_set ?_ ?_ ?_); (focus rfl); (focus first | exact tT_lb | exact lb_int _ _ | exact lb_bl _ _ | exact lb_non _ | assumption)) | refine wp_eq rfl ?_))
local macro_rules | `(tactic| walk_at "st") => `(tactic| ((first | (refine wp_seqK ?_; intro K hK) | skip); walk_at "go"))
local macro_rules | `(tactic| walk_at "nx") => `(tactic| ((try dsimp only [List.set_cons_zero, List.set_cons_succ]); refine wp_nx (by assumption) ?_; walk_at "st"))
local macro_rules | `(tactic| walk_at "nk") => `(tactic| ((try dsimp only [List.set_cons_zero, List.set_cons_succ]); refine wp_nx (by assumption) ?_))
/-! W13 of k11: the walk of the known answer -/
theorem Drx.kill {p l : Nat} {st s : Sto} (h : Drx p st s) (hl : st.nxt ≤ l) : Drx p st (s.kill l) := ⟨h.1, by rw [Sto.restr_kill_ge hl]; exact h.2⟩
theorem its_at {l : Nat} {s : Sto} {xs : List PV} (h : s.cs l = some (.lst xs)) : itsOf (.loc l) s = some (⟨xs, some (l, .lst xs)⟩, s) := by
  show (match s.cs l with | some (.lst xs) => some (Its.mk xs (some (l, .lst xs)), s) | _ => none) = _
  rw [h]
theorem min_wp {i j : Int} {st : Sto} : bMin [.int i, .int j] st = some (.int (min i j), st) := by
  show some (PV.int (if j < i then j else i), st) = _
  rw [min_if]
theorem known_wp {p : Nat} {st : Sto} {Q : PV → Sto → Prop} (h : Pool p st)
    (q : ∀ (S O A : List (List Int)) st', judge S O A = true → Srs S → O.length ≤ 8 → 0 < O.length → (∀ o ∈ O, o.length ≤ 6) → Dr p st st' → Q (.tup [rowsP S, rowsP O, rowsP A]) st') : wp (f_law_known [.loc p] st) Q := by
  have hpl := h.lt
  unfold f_law_known
  refine wp_runF rfl ?_
  show wp (D_law_known [some (.loc p), none, none, none, none, none, none, none, none, none, none, none, none, none] st) _
  unfold D_law_known
  refine wp_seqK ?_
  intro K hK
  walk_at "go"
  refine pick_wp h (xs := [.int 2, .int 1, .int 3, .int 4, .int 2, .int 5, .int 0, .int 6]) (fun _ _ => rfl) (by decide) (by intro x hx; simp only [List.mem_cons, List.not_mem_nil, or_false] at hx; rcases hx with rfl | rfl | rfl | rfl | rfl | rfl | rfl | rfl <;> exact lb_int _ _) fun x s1 hx d1 => ?_
  obtain ⟨z, hz, rfl⟩ : ∃ z : Nat, z < 7 ∧ x = .int (z : Int) := by
    simp only [List.mem_cons, List.not_mem_nil, or_false] at hx
    rcases hx with rfl | rfl | rfl | rfl | rfl | rfl | rfl | rfl
    · exact ⟨2, by decide, rfl⟩
    · exact ⟨1, by decide, rfl⟩
    · exact ⟨3, by decide, rfl⟩
    · exact ⟨4, by decide, rfl⟩
    · exact ⟨2, by decide, rfl⟩
    · exact ⟨5, by decide, rfl⟩
    · exact ⟨0, by decide, rfl⟩
    · exact ⟨6, by decide, rfl⟩
  clear hx
  refine wp_set (by rw [d1.nxt]) (lb_int _ _) ?_
  walk_at "go"
  walk_at "nk"
  clear hK
  refine wp_seqK ?_
  intro K hK
  walk_at "go"
  refine wp_pos (okRng_iff.mpr ⟨by decide, by decide⟩) ?_
  walk_at "go"
  refine wp_eq (lc_at (its := ⟨rng 0 ((64 : Nat) : Int), none⟩) Its.ok_none (fun (j : Nat) => decide ((cols (j : Int)).length = z)) (fun (j : Nat) => tT (cols (j : Int))) (fun k x hx => ?_)) ?_
  · obtain ⟨hk, rfl⟩ := rng_at hx
    refine wp_eq rfl ⟨rfl, ?_⟩
    walk_at "go"
    refine wp_eq law_columns_eq ?_
    walk_at "go"
    rw [List.length_map, eqv_int, eqN]
    refine ⟨rfl, by rw [Bool.bne_false], fun _ => ?_⟩
    walk_at "go"
    refine wp_eq law_columns_eq ?_
    walk_at "go"
    exact ⟨rfl, rfl⟩
  rw [rng_len]
  have eL : ((List.range 64).filter fun (j : Nat) => decide ((cols (j : Int)).length = z)).map (fun (j : Nat) => tT (cols (j : Int))) = (levelL z).map tT := by
    unfold levelL
    rw [List.map_map]
    rfl
  rw [eL]
  have hL64 := level_le z
  refine wp_eq (mkM_eq (okL (by rw [List.length_map]; omega)) (rows_lb _)) ?_
  walk_at "go"
  walk_at "nk"
  clear hK
  walk_at "st"
  walk_at "nx"
  walk_at "nk"
  have n1 : s1.nxt = st.nxt := d1.nxt
  have F0 : K3 p st (((s1.alloc (.lst ((levelL z).map tT))).alloc (.lst [])).alloc (.lst [])) (levelL z) [] [] := by
    refine ⟨(h.dr d1).alloc.alloc.alloc, ?_, ?_, ?_, ?_, hpl⟩
    · have : Drx p st s1 := ⟨by rw [n1]; exact Nat.le_refl _, by rw [d1.restr]; exact d1⟩
      exact this.alloc.alloc.alloc
    · rw [Sto.alloc_ne (by rw [Sto.alloc_nxt, Sto.alloc_nxt]; omega), Sto.alloc_ne (by rw [Sto.alloc_nxt]; omega), ← n1]
      exact Sto.alloc_get (rows_lb _)
    · rw [Sto.alloc_ne (by rw [Sto.alloc_nxt, Sto.alloc_nxt]; omega), ← n1]
      exact Sto.alloc_get (c := .lst []) (show lbs (s1.nxt + 1) [] = true from lbs_nil _)
    · rw [← n1]
      exact Sto.alloc_get (c := .lst []) (show lbs (s1.nxt + 1 + 1) [] = true from lbs_nil _)
  simp only [Sto.alloc_nxt, n1]
  generalize ((s1.alloc (.lst ((levelL z).map tT))).alloc (.lst [])).alloc (.lst []) = s2 at F0 ⊢
  clear d1 n1
  refine wp_seqK ?_
  intro K hK
  walk_at "go"
  refine wp_eq (loc_len F0.cl) ?_
  rw [List.length_map]
  walk_at "go"
  rw [min_if]
  have hLp := level_pos z hz
  refine draw_wp F0.pool (by omega) fun r s3 r0 r1 d => ?_
  refine wp_set (by rw [d.nxt]) (lb_int _ _) ?_
  have F1 := F0.dr d
  clear F0 d
  obtain ⟨i0, rfl⟩ := Int.eq_ofNat_of_zero_le r0
  have hi0 : i0 < 8 ∧ i0 < (levelL z).length := by omega
  walk_at "go"
  rw [show ((1 : Int) + (i0 : Int)) = ((1 + i0 : Nat) : Int) by omega]
  refine wp_pos (okR (by omega)) ?_
  walk_at "go"
  refine forGo_wp (its := ⟨rng 0 ((1 + i0 : Nat) : Int), none⟩) (fun k env s => ∃ (Lv O A : List (List Int)) (u6 u7 u8 : Option PV), env = [some (.loc p), some (.int (z : Int)), some (.loc st.nxt), none, some (.loc (st.nxt + 1)), some (.loc (st.nxt + 2)), u6, u7, u8, none, none, none, none, none] ∧ K3 p st s Lv O A ∧ (A ++ Lv).Perm (levelL z) ∧ A.length = k ∧ O.length = k ∧ (∀ o ∈ O, o.Nodup ∧ ∀ c ∈ o, 0 ≤ c ∧ c ≤ 5) ∧ ∀ a ∈ A, ∃ o ∈ O, servB o a = true) _ (fun k x env s hx hI => ?_) (fun env s hI => ?_)
    ⟨levelL z, [], [], _, _, _, rfl, F1, List.Perm.refl _, rfl, rfl, fun o h => (by cases h), fun o h => (by cases h)⟩
  · clear F1
    obtain ⟨Lv, O, A, u6, u7, u8, rfl, F, hp, hA, hO, hok, hsv⟩ := hI
    obtain ⟨hk, rfl⟩ := rng_at hx
    have hl := hp.length_eq
    rw [List.length_append] at hl
    refine ⟨Its.ok_none, wp_eq rfl ?_⟩
    refine wp_seqK ?_
    intro K2 hK2
    walk_at "go"
    refine wp_eq (loc_asL F.cl) ?_
    walk_at "go"
    refine wp_eq (loc_len F.cl) ?_
    rw [List.length_map]
    walk_at "go"
    refine draw_wp F.pool (by omega) fun r s4 r0 r1 d => ?_
    refine wp_set (by rw [d.nxt]) (lb_int _ _) ?_
    obtain ⟨i, rfl⟩ := Int.eq_ofNat_of_zero_le r0
    have hi : i < Lv.length := by omega
    have F1 := F.dr d
    clear F d
    walk_at "go"
    refine wp_eq (pop_map F1.cl hi (by omega)) ?_
    have F2 := F1.put0 (X := Lv.eraseIdx i)
    generalize s4.set st.nxt (.lst ((Lv.eraseIdx i).map tT)) = s5 at F2 ⊢
    clear F1
    have hpe := erase_perm hi
    have hxm : Lv[i] ∈ levelL z := hp.mem_iff.mp (List.mem_append_right _ (List.getElem_mem hi))
    generalize Lv[i] = x at hpe hxm ⊢
    have hxs := (level_mem hxm).1
    have hx6 := hxs.len
    walk_at "go"
    walk_at "nk"
    refine wp_seqK ?_
    intro K3' hK3
    walk_at "go"
    refine wp_pos (okRng_iff.mpr ⟨by decide, by decide⟩) ?_
    walk_at "go"
    refine wp_eq (lc_at (its := ⟨rng 0 ((6 : Nat) : Int), none⟩) Its.ok_none (fun (c : Nat) => !x.contains (c : Int)) nI (fun k x' hx' => ?_)) ?_
    · obtain ⟨hk, rfl⟩ := rng_at hx'
      refine wp_eq rfl ⟨rfl, ?_⟩
      walk_at "go"
      refine wp_eq cmpIn_tT ?_
      refine wp_eq rfl ⟨rfl, ?_, fun _ => wp_eq rfl ⟨rfl, rfl⟩⟩
      cases x.contains (k : Int) <;> rfl
    rw [rng_len]
    have eB : ((List.range 6).filter fun (c : Nat) => !x.contains (c : Int)).map nI = (((List.range 6).filter fun (c : Nat) => !x.contains (c : Int)).map fun (c : Nat) => (c : Int)).map .int := by rw [List.map_map]; rfl
    have hB6 : (((List.range 6).filter fun (c : Nat) => !x.contains (c : Int)).map fun (c : Nat) => (c : Int)).length ≤ 6 := by
      rw [List.length_map]
      exact Nat.le_trans (List.length_filter_le _ _) (by rw [List.length_range]; exact Nat.le_refl _)
    rw [eB]
    refine wp_eq (mkV_eq (okL (by rw [List.length_map]; omega))) ?_
    walk_at "go"
    refine shuffled_wp F2.pool (fun _ => rfl) (by omega) fun bh s6 hbh d => ?_
    refine wp_set (by rw [d.nxt]) tT_lb ?_
    have F3 := F2.dr d
    clear F2 d
    have hbl := hbh.length_eq
    walk_at "go"
    walk_at "nk"
    refine wp_seqK ?_
    intro K4 hK4
    walk_at "go"
    refine wp_eq (loc_asL F3.co) ?_
    walk_at "go"
    refine shuffled_wp F3.pool (a := x) (fun _ => rfl) (by omega) fun b s7 hb d => ?_
    refine wp_set (by rw [d.nxt]) tT_lb ?_
    have F4 := F3.dr d
    clear F3 d
    walk_at "go"
    rw [List.length_map]
    refine draw_wp F4.pool (by omega) fun r s8 r0 r1 d => ?_
    refine wp_set (by rw [d.nxt]) (lb_int _ _) ?_
    have F5 := F4.dr d
    clear F4 d
    obtain ⟨m1, m2, m3⟩ := made_order (k := some r) hxs hb hbh
    have hol := cols_len m1 m2
    rw [List.length_append] at hol
    walk_at "go"
    rw [cutP_map]
    refine wp_eq (add_tT (b := cutG bh none (some r)) (by omega)) ?_
    walk_at "go"
    refine wp_eq (push_row F5.co (by omega)) ?_
    have F6 := F5.put1 (X := O ++ [b ++ cutG bh none (some r)])
    generalize s8.set (st.nxt + 1) (.lst ((O ++ [b ++ cutG bh none (some r)]).map tT)) = s9 at F6 ⊢
    clear F5
    walk_at "go"
    walk_at "nk"
    walk_at "go"
    refine wp_eq (loc_asL F6.ca) ?_
    walk_at "go"
    refine wp_eq (push_row F6.ca (by omega)) ?_
    have F7 := F6.put2 (X := A ++ [x])
    walk_at "go"
    refine ⟨Lv.eraseIdx i, O ++ [b ++ cutG bh none (some r)], A ++ [x], _, _, _, rfl, F7, ?_, by rw [List.length_append, hA]; rfl, by rw [List.length_append, hO]; rfl, fun o ho => ?_, fun a ha => ?_⟩
    · rw [List.append_assoc]
      exact (hpe.append_left A).trans hp
    · rcases List.mem_append.mp ho with ho | ho
      · exact hok o ho
      · rw [List.mem_singleton.mp ho]
        exact ⟨m1, m2⟩
    · rcases List.mem_append.mp ha with ha | ha
      · obtain ⟨o, h1, h2⟩ := hsv a ha
        exact ⟨o, List.mem_append_left _ h1, h2⟩
      · rw [List.mem_singleton.mp ha]
        exact ⟨_, List.mem_append_right _ (List.mem_singleton.mpr rfl), m3⟩
  clear F1
  obtain ⟨Lv, O, A, u6, u7, u8, rfl, F, hp, hA, hO, hok, hsv⟩ := hI
  rw [rng_len] at hA hO
  refine ⟨Its.ok_none, ?_⟩
  walk_at "nk"
  clear hK
  refine wp_seqK ?_
  intro K hK
  walk_at "go"
  have e0 : bList true [.loc (st.nxt + 2)] s = some (.loc s.nxt, s.alloc (.lst (A.map tT))) := by
    show (match seqOf s (.loc (st.nxt + 2)) with | some xs => mkL true xs s | none => none) = _
    rw [loc_seq F.ca]
    exact mkM_eq (okL (by rw [List.length_map]; omega)) (rows_lb _)
  refine wp_eq e0 ?_
  walk_at "go"
  walk_at "nk"
  clear hK
  have h3 := F.at3
  have G0 : K3 p st (s.alloc (.lst (A.map tT))) Lv O A := F.alloc
  have c0 : (s.alloc (.lst (A.map tT))).cs s.nxt = some (.lst (A.map tT)) := Sto.alloc_get (rows_lb _)
  have n0 : Kno O A A := ⟨fun a ha => (level_mem (hp.mem_iff.mp (List.mem_append_left _ ha))).1, (List.sublist_append_left A Lv).nodup (hp.nodup_iff.mpr (level_nd z)), by omega, hsv, fun a h => h⟩
  generalize s.nxt = ps at h3 c0 ⊢
  generalize s.alloc (.lst (A.map tT)) = s4 at G0 c0 ⊢
  clear F e0
  have hO6 : ∀ o ∈ O, o.length ≤ 6 := fun o ho => cols_len (hok o ho).1 (hok o ho).2
  have itO : ∀ s, K3 p st s Lv O A → (Its.mk (O.map tT) (some (st.nxt + 1, .lst (O.map tT)))).ok s := fun s F => F.co
  refine wp_seqK ?_
  intro K hK
  walk_at "go"
  refine wp_eq (its_at G0.co) ?_
  walk_at "go"
  refine forGo_wp (its := ⟨O.map tT, some (st.nxt + 1, .lst (O.map tT))⟩) (fun k env s => ∃ (Sr : List (List Int)) (u6 u11 u12 : Option PV), env = [some (.loc p), some (.int (z : Int)), some (.loc st.nxt), none, some (.loc (st.nxt + 1)), some (.loc (st.nxt + 2)), u6, u7, u8, none, some (.loc ps), u11, u12, none] ∧ K3 p st s Lv O A ∧ s.cs ps = some (.lst (Sr.map tT)) ∧ Kno O A Sr) _ (fun k x env s hx hI => ?_) (fun env s hI => ?_) ⟨A, _, _, _, rfl, G0, c0, n0⟩
  · clear G0 c0 n0
    obtain ⟨Sr, u6, u11, u12, rfl, F, cS, N⟩ := hI
    obtain ⟨o, ho, hom, rfl⟩ := get_map hx
    have ho6 := hO6 o hom
    refine ⟨itO s F, wp_eq rfl ?_⟩
    walk_at "go"
    rw [List.length_map, show ((o.length : Int) + 1) = ((o.length + 1 : Nat) : Int) by omega]
    refine wp_pos (okR (by omega)) ?_
    walk_at "go"
    refine forGo_wp (its := ⟨rng 0 ((o.length + 1 : Nat) : Int), none⟩) (fun k env s => ∃ (Sr : List (List Int)) (u6 u12 : Option PV), env = [some (.loc p), some (.int (z : Int)), some (.loc st.nxt), none, some (.loc (st.nxt + 1)), some (.loc (st.nxt + 2)), u6, u7, u8, none, some (.loc ps), some (tT o), u12, none] ∧ K3 p st s Lv O A ∧ s.cs ps = some (.lst (Sr.map tT)) ∧ Kno O A Sr) _ (fun k x env s hx hI => ?_) (fun env s hI => ?_) ⟨Sr, _, _, rfl, F, cS, N⟩
    · clear F cS N
      obtain ⟨Sr, u6, u12, rfl, F, cS, N⟩ := hI
      obtain ⟨hk, rfl⟩ := rng_at hx
      have hpp := F.hp
      have hl40 := N.ln
      refine ⟨Its.ok_none, wp_eq rfl ?_⟩
      refine wp_seqK ?_
      intro K2 hK2
      walk_at "go"
      rw [cutT_take]
      refine wp_eq ((sorted_tT (a := o.take k) (by rw [List.length_take]; omega)).trans (mkV_eq (okL (by rw [List.length_map, (sortI_perm _).length_eq, List.length_take]; omega)))) ?_
      walk_at "go"
      refine wp_eq (bTuple_lst (by rw [List.length_map, (sortI_perm _).length_eq, List.length_take]; omega)) ?_
      walk_at "go"
      walk_at "nk"
      walk_at "go"
      refine draw_wp F.pool (by decide) fun r s5 r0 r1 d => ?_
      refine wp_set (by rw [d.nxt]) (lb_int _ _) ?_
      have F1 := F.dr d
      have cS1 : s5.cs ps = some (.lst (Sr.map tT)) := by rw [d.get (by omega)]; exact cS
      clear F cS d
      walk_at "go"
      rw [eqv_int]
      refine wp_if (fun hr => ?_) (fun hr => ?_)
      · walk_at "go"
        refine wp_eq (in_rows (p := sortI (o.take k)) (S := Sr) (lst_loc cS1)) ?_
        cases hc : Sr.contains (sortI (o.take k)) with
        | true =>
          walk_at "go"
          exact ⟨Sr, _, _, rfl, F1, cS1, N⟩
        | false =>
          walk_at "go"
          refine wp_eq (loc_len cS1) ?_
          rw [List.length_map]
          walk_at "go"
          by_cases hl : Sr.length < 40
          · rw [decide_eq_true (show (Sr.length : Int) < 40 by omega)]
            walk_at "go"
            refine wp_eq (loc_asL cS1) ?_
            walk_at "go"
            refine wp_eq (push_row cS1 (by omega)) ?_
            walk_at "go"
            have hni : sortI (o.take k) ∉ Sr := fun h => by
              rw [List.contains_iff_mem.mpr h] at hc
              cases hc
            exact ⟨_, _, _, rfl, F1.put3 h3, Sto.set_get cS1 (rows_lb _), N.more hom (hok o hom).1 (hok o hom).2 hl hni⟩
          · rw [decide_eq_false (show ¬ (Sr.length : Int) < 40 by omega)]
            walk_at "go"
            exact ⟨Sr, _, _, rfl, F1, cS1, N⟩
      · walk_at "go"
        exact ⟨Sr, _, _, rfl, F1, cS1, N⟩
    · obtain ⟨Sr, u6, u12, rfl, F, cS, N⟩ := hI
      exact ⟨Its.ok_none, Sr, _, _, _, rfl, F, cS, N⟩
  clear G0 c0 n0
  obtain ⟨Sr, u6, u11, u12, rfl, F, cS, N⟩ := hI
  refine ⟨itO s F, ?_⟩
  have hpp := F.hp
  have hAS : 0 < Sr.length := by
    have : A ≠ [] := fun e => by rw [e] at hA; simp at hA; omega
    obtain ⟨a, r, rfl⟩ := List.exists_cons_of_ne_nil this
    exact List.length_pos_of_mem (N.ap a List.mem_cons_self)
  have hl40 := N.ln
  walk_at "nk"
  clear hK
  refine wp_seqK ?_
  intro K hK
  walk_at "go"
  refine wp_eq (loc_len cS) ?_
  rw [List.length_map]
  walk_at "go"
  refine draw_wp F.pool (by omega) fun r s5 r0 r1 d => ?_
  refine wp_set (by rw [d.nxt]) (lb_int _ _) ?_
  have F1 := F.dr d
  have cS1 : s5.cs ps = some (.lst (Sr.map tT)) := by rw [d.get (by omega)]; exact cS
  clear F cS d
  obtain ⟨i, rfl⟩ := Int.eq_ofNat_of_zero_le r0
  have hi : i ≤ Sr.length := by omega
  walk_at "go"
  walk_at "nk"
  clear hK
  have vE : ∀ (a b : Option Int), cutG Sr a b = cutG Sr a b := fun _ _ => rfl
  have e1 : dSl false (dVar 10) (oSome (dVar 13)) oNone [some (.loc p), some (.int (z : Int)), some (.loc st.nxt), none, some (.loc (st.nxt + 1)), some (.loc (st.nxt + 2)), u6, u7, u8, none, some (.loc ps), u11, u12, some (.int (i : Int))] s5 = some (rowsP (Sr.drop i), s5) := by
    rw [slL (v := .loc ps) (l := some (i : Int)) (h := none) rfl (lst_loc cS1) rfl rfl, cutP_map, cutG_from hi]
    exact mkV_eq (okL (by rw [List.length_map, List.length_drop]; omega))
  have e2 : dSl false (dVar 10) oNone (oSome (dVar 13)) [some (.loc p), some (.int (z : Int)), some (.loc st.nxt), none, some (.loc (st.nxt + 1)), some (.loc (st.nxt + 2)), u6, u7, u8, none, some (.loc ps), u11, u12, some (.int (i : Int))] s5 = some (rowsP (Sr.take i), s5) := by
    rw [slL (v := .loc ps) (l := none) (h := some (i : Int)) rfl (lst_loc cS1) rfl rfl, cutP_map, cutG_to hi]
    exact mkV_eq (okL (by rw [List.length_map, List.length_take]; omega))
  have e3 : dBin (opAdd false) (dSl false (dVar 10) (oSome (dVar 13)) oNone) (dSl false (dVar 10) oNone (oSome (dVar 13))) [some (.loc p), some (.int (z : Int)), some (.loc st.nxt), none, some (.loc (st.nxt + 1)), some (.loc (st.nxt + 2)), u6, u7, u8, none, some (.loc ps), u11, u12, some (.int (i : Int))] s5 = some (rowsP (Sr.drop i ++ Sr.take i), s5) := by
    unfold dBin
    rw [e1, mb_some, e2, mb_some]
    exact addR (by rw [List.length_drop, List.length_take]; omega)
  unfold sRet dTup
  refine wp_mb ?_
  unfold dApp
  refine wp_mb ?_
  refine wp_eq (a := [rowsP (Sr.drop i ++ Sr.take i), rowsP O, rowsP A]) (s := (s5.kill (st.nxt + 1)).kill (st.nxt + 2)) ?_ ?_
  · have f1 : dFrz 4 [some (.loc p), some (.int (z : Int)), some (.loc st.nxt), none, some (.loc (st.nxt + 1)), some (.loc (st.nxt + 2)), u6, u7, u8, none, some (.loc ps), u11, u12, some (.int (i : Int))] s5 = some (rowsP O, s5.kill (st.nxt + 1)) := frz_eq F1.co
    have f2 : dFrz 5 [some (.loc p), some (.int (z : Int)), some (.loc st.nxt), none, some (.loc (st.nxt + 1)), some (.loc (st.nxt + 2)), u6, u7, u8, none, some (.loc ps), u11, u12, some (.int (i : Int))] (s5.kill (st.nxt + 1)) = some (rowsP A, (s5.kill (st.nxt + 1)).kill (st.nxt + 2)) := frz_eq (c := .lst (A.map tT)) (by rw [Sto.kill_ne (by omega)]; exact F1.ca)
    unfold aCons
    rw [e3, mb_some, f1, mb_some, f2, mb_some]
    rfl
  refine wp_eq (mkT_eq (okL (show 3 ≤ 1000000 by decide))) ?_
  refine wp_eq rfl ?_
  refine wp_eq (fin_val (by unfold rowsP; rw [lb_tup, lbs_cons, lb_lst, rows_lb, lbs_cons, lb_lst, rows_lb, lbs_cons, lb_lst, rows_lb, lbs_nil]; rfl)) ?_
  have hper : (Sr.drop i ++ Sr.take i).Perm Sr := (List.perm_append_comm).trans (by rw [List.take_append_drop])
  refine q _ O A _ (N.judge hp (by omega) hok fun s => hper.symm.mem_iff) ⟨fun s hs => N.ok s (hper.mem_iff.mp hs), hper.nodup_iff.mpr N.nd, by rw [hper.length_eq]; omega⟩ (by omega) (by omega) hO6 ?_
  exact ((F1.drx.kill (by omega)).kill (by omega)).2
end DL

namespace DL
open PySem L2
local macro_rules | `(tactic| walk_at "go") => `(tactic| repeat (first | refine wp_mb ?_ | with_reducible refine wp_mul (by first | assumption | (exact okMul_iff.mpr (by omega))) ?_ | with_reducible refine wp_mod (by first | assumption | (exact okMod_iff.mpr (by omega))) ?_ | with_reducible refine wp_div (by first | assumption | (exact okDiv_iff.mpr (by omega))) ?_ | with_reducible refine wp_pow (by first | assumption | (exact okPow_iff.mpr (by decide))) ?_ | ((with_reducible refine wp_set ?_ ?_ ?_); (focus rfl); (focus first | exact tT_lb | exact lb_int _ _ | exact lb_bl _ _ | exact lb_non _ | assumption)) | refine wp_eq rfl ?_))
local macro_rules | `(tactic| walk_at "st") => `(tactic| ((first | (refine wp_seqK ?_; intro K hK) | skip); walk_at "go"))
local macro_rules | `(tactic| walk_at "nx") => `(tactic| ((try dsimp only [List.set_cons_zero, List.set_cons_succ]); refine wp_nx (by assumption) ?_; walk_at "st"))
local macro_rules | `(tactic| walk_at "nk") => `(tactic| ((try dsimp only [List.set_cons_zero, List.set_cons_succ]); refine wp_nx (by assumption) ?_))
/-! W14 of k11: the law -/
/-- what is asked: searches, and a known answer or none -/
structure Ask (S O A : List (List Int)) : Prop where
  s : Srs S
  sn : 0 < S.length
  k : (O = [] ∧ A = []) ∨ (judge S O A = true ∧ O.length ≤ 8 ∧ 0 < O.length ∧ ∀ o ∈ O, o.length ≤ 6)
theorem judge_sub {S O A : List (List Int)} (h : judge S O A = true) : O.length = A.length ∧ ∀ a ∈ A, a ∈ S := by
  obtain ⟨a, b, c, d⟩ := judge_iff.mp h
  exact ⟨d, (apB_iff.mp c).1⟩
theorem judge_pos {S O A : List (List Int)} (h : judge S O A = true) (hS : 0 < S.length) : 0 < O.length := by
  obtain ⟨a, b, c, d⟩ := judge_iff.mp h
  obtain ⟨o, ho, _⟩ := b S[0] (List.getElem_mem hS)
  exact List.length_pos_of_mem ho
theorem srs_rot {S : List (List Int)} {k : Nat} (h : Srs S) : Srs (S.drop k ++ S.take k) ∧ ∀ s, s ∈ S.drop k ++ S.take k ↔ s ∈ S := by
  have hper : (S.drop k ++ S.take k).Perm S := (List.perm_append_comm).trans (by rw [List.take_append_drop])
  exact ⟨⟨fun s hs => h.ok s (hper.mem_iff.mp hs), hper.nodup_iff.mpr h.nd, by rw [hper.length_eq]; exact h.ln⟩, fun s => hper.mem_iff⟩
theorem base_of {S O A : List (List Int)} (h : Srs S) (hn : 0 < S.length) (hj : judge S O A = true) (hO : ∀ o ∈ O, o.length ≤ 6) (hz : O.length ≤ 64) : Base S O A := by
  obtain ⟨h1, h2⟩ := judge_sub hj
  have h3 := judge_pos hj hn
  have h6 : ∀ s ∈ S, s.length ≤ 20 := fun s hs => Nat.le_trans (h.ok s hs).len (by omega)
  exact ⟨⟨h.ln, h6⟩, ⟨hz, fun o ho => Nat.le_trans (hO o ho) (by omega)⟩, ⟨by omega, fun a ha => h6 a (h2 a ha)⟩, hn, h3, by omega⟩
theorem triple_lb {n : Nat} {S O A : List (List Int)} : (PV.tup [rowsP S, rowsP O, rowsP A]).lb n = true := by
  unfold rowsP
  rw [lb_tup, lbs_cons, lb_lst, rows_lb, lbs_cons, lb_lst, rows_lb, lbs_cons, lb_lst, rows_lb, lbs_nil]
  rfl
theorem law_true : ∀ ns : List Int, ns.length ≤ 63 → ∃ st, f_law [.ro (ns.map .int)] st0 = some (.bl true, st) := by
  intro ns hns
  refine (fun (z : wp (f_law [.ro (ns.map .int)] st0) fun v _ => v = .bl true) => ?_) ?_
  · obtain ⟨v, s, e, rfl⟩ := z
    exact ⟨s, e⟩
  unfold f_law
  refine wp_runF rfl ?_
  show wp (D_law [some (.ro (ns.map .int)), none, none, none, none, none, none, none] st0) _
  unfold D_law
  refine wp_seqK ?_
  intro K hK
  walk_at "go"
  refine pool_wp hns fun P hP2 => ?_
  have hP : Pool st0.nxt (st0.alloc (.lst (P.map .int))) := pool_new hP2
  walk_at "go"
  walk_at "nk"
  clear hK
  generalize st0.alloc (.lst (P.map .int)) = s at hP ⊢
  generalize st0.nxt = p at hP ⊢
  refine wp_seqK ?_
  intro K hK
  walk_at "go"
  refine known_wp hP fun S O A s1 hj hS hO8 hO0 hO6 d => ?_
  refine wp_set (by rw [d.nxt]) triple_lb ?_
  have hP1 := hP.dr d
  clear hP d
  have ask0 : Ask S O A := by
    refine ⟨hS, ?_, .inr ⟨hj, hO8, hO0, hO6⟩⟩
    obtain ⟨h1, h2⟩ := judge_sub hj
    have : A ≠ [] := fun e => by rw [e] at h1; simp at h1; rw [h1] at hO0; simp at hO0
    obtain ⟨a, r, rfl⟩ := List.exists_cons_of_ne_nil this
    exact List.length_pos_of_mem (h2 a List.mem_cons_self)
  walk_at "go"
  walk_at "nk"
  clear hK hj hS hO8 hO0 hO6
  refine wp_seqK ?_
  intro K hK
  refine wp_mono (R := fun f s => ∃ (S O A : List (List Int)) (u3 : Option PV), f = .nx [some (.ro (ns.map .int)), some (.loc p), some (.tup [rowsP S, rowsP O, rowsP A]), u3, none, none, none, none] ∧ Ask S O A ∧ Pool p s) ?_ fun f s2 hR => ?_
  · walk_at "go"
    refine draw_wp hP1 (by decide) fun r s2 r0 r1 d => ?_
    refine wp_set (by rw [d.nxt]) (lb_int _ _) ?_
    replace hP1 := hP1.dr d
    clear d
    walk_at "go"
    rw [eqv_int]
    refine wp_if (fun hr => ?_) (fun hr => ?_)
    · refine wp_seqK ?_
      intro K2 hK2
      walk_at "go"
      refine draw_wp hP1 (by decide) fun r2 s3 r0' r1' d => ?_
      refine wp_set (by rw [d.nxt]) (lb_int _ _) ?_
      replace hP1 := hP1.dr d
      clear d
      walk_at "go"
      walk_at "nk"
      refine wp_seqK ?_
      intro K3 hK3
      refine wp_mono (R := fun f s => ∃ m : Nat, m ≤ 40 ∧ 0 < m ∧ f = .nx [some (.ro (ns.map .int)), some (.loc p), some (.tup [rowsP S, rowsP O, rowsP A]), some (.int (m : Int)), none, none, none, none] ∧ Pool p s) ?_ fun f s4 hR => ?_
      · walk_at "go"
        refine draw_wp hP1 (by decide) fun r3 s4 q0 q1 d => ?_
        refine wp_set (by rw [d.nxt]) (lb_int _ _) ?_
        replace hP1 := hP1.dr d
        clear d
        walk_at "go"
        rw [eqv_int]
        refine wp_if (fun hr => ?_) (fun hr => ?_)
        · walk_at "go"
          refine draw_wp hP1 (by decide) fun r4 s5 w0 w1 d => ?_
          refine wp_set (by rw [d.nxt]) (lb_int _ _) ?_
          replace hP1 := hP1.dr d
          clear d
          obtain ⟨m, rfl⟩ := Int.eq_ofNat_of_zero_le w0
          walk_at "go"
          exact ⟨30 + m, by omega, by omega, by rw [show (((30 + m : Nat)) : Int) = 30 + (m : Int) by omega]; rfl, hP1⟩
        · walk_at "go"
          obtain ⟨m, rfl⟩ := Int.eq_ofNat_of_zero_le r0'
          exact ⟨1 + m, by omega, by omega, by rw [show (((1 + m : Nat)) : Int) = 1 + (m : Int) by omega], hP1⟩
      · obtain ⟨m, hm, hm0, rfl, hP1⟩ := hR
        walk_at "nk"
        walk_at "go"
        refine lfree_wp hP1 hm fun N s5 hnd hN hNl d => ?_
        refine wp_set (by rw [d.nxt]) (by unfold rowsP; rw [lb_lst]; exact rows_lb _) ?_
        replace hP1 := hP1.dr d
        clear d
        walk_at "go"
        refine ⟨N.map cols, [], [], _, rfl, ⟨⟨fun s hs => ?_, nodup_map hnd fun x hx y hy e => cols_inj (hN x hx) (hN y hy) e, by rw [List.length_map]; omega⟩, by rw [List.length_map]; omega, .inl ⟨rfl, rfl⟩⟩, hP1⟩
        obtain ⟨x, _, rfl⟩ := List.mem_map.mp hs
        exact cols_srch x
    · walk_at "go"
      exact ⟨S, O, A, _, rfl, ask0, hP1⟩
  clear ask0 hP1
  obtain ⟨S, O, A, u3, rfl, ask, hP⟩ := hR
  walk_at "nk"
  clear hK
  have hSz := ask.s.ln
  have hasc : ∀ s ∈ S, s.Pairwise (· < ·) ∧ s.length ≤ 1000 := fun s hs => ⟨(ask.s.ok s hs).1, Nat.le_trans (ask.s.ok s hs).len (by omega)⟩
  have hS6 : ∀ s ∈ S, s.length ≤ 6 := fun s hs => (ask.s.ok s hs).len
  have hplain : plainP 5 (rowsP S) = true := plain_rows (fun s hs => Nat.le_trans (hS6 s hs) (by omega)) (by omega)
  walk_at "st"
  walk_at "nk"
  refine wp_seqK ?_
  intro K hK
  walk_at "go"
  have bl : ∀ (X : List (List Int)) (v : PV) (s : Sto), lstOf s v = some (X.map tT) → X.length ≤ 1000 → bList false [v] s = some (rowsP X, s) := fun X v s h hz => bList_v (seq_lst h) (by rw [List.length_map]; omega)
  refine wp_eq (bl S _ _ rfl (by omega)) ?_
  walk_at "go"
  walk_at "nk"
  clear hK
  refine wp_seqK ?_
  intro K hK
  walk_at "go"
  refine least_wp ask.s fun O1 P1 j1 hO16 hO164 => ?_
  rw [if_pos rfl]
  have hp2 := hP.lt
  have c1 : ((s2.alloc (.lst (O1.map tT))).alloc (.lst (P1.map tT))).cs s2.nxt = some (.lst (O1.map tT)) := by
    rw [Sto.alloc_ne (by rw [Sto.alloc_nxt]; omega)]
    exact Sto.alloc_get (rows_lb _)
  have c2 : ((s2.alloc (.lst (O1.map tT))).alloc (.lst (P1.map tT))).cs (s2.nxt + 1) = some (.lst (P1.map tT)) := Sto.alloc_get (rows_lb _)
  replace hP : Pool p ((s2.alloc (.lst (O1.map tT))).alloc (.lst (P1.map tT))) := hP.alloc.alloc
  generalize (s2.alloc (.lst (O1.map tT))).alloc (.lst (P1.map tT)) = t1 at hP c1 c2 ⊢
  generalize s2.nxt = a1 at hp2 c1 c2 ⊢
  obtain ⟨jl1, js1⟩ := judge_sub j1
  have jp1 := judge_pos j1 ask.sn
  have B1 := base_of ask.s ask.sn j1 hO16 hO164
  have k1 : ∀ o ∈ O1, o.length ≤ 1000 := fun o ho => Nat.le_trans (hO16 o ho) (by omega)
  have k2 : ∀ o ∈ P1, o.length ≤ 1000 := fun o ho => Nat.le_trans (hS6 o (js1 o ho)) (by omega)
  walk_at "go"
  walk_at "nk"
  clear hK
  refine wp_seqK ?_
  intro K hK
  walk_at "go"
  refine wp_eq (law_kinds_eq (lst_loc c1) (lst_loc c2) (by omega) (by omega) k1 k2) ?_
  walk_at "go"
  refine wp_eq (law_judged_eq hasc (by omega) (lst_loc c1) (lst_loc c2) k1 (by omega) k2) ?_
  rw [j1]
  walk_at "go"
  refine wp_eq (same_ok (v := rowsP S) rfl rfl hplain) ?_
  walk_at "go"
  walk_at "nk"
  clear hK
  refine wp_seqK ?_
  intro K hK
  walk_at "go"
  refine wp_eq (bl O1 _ _ (lst_loc c1) (by omega)) ?_
  walk_at "go"
  refine wp_eq (bl P1 _ _ (lst_loc c2) (by omega)) ?_
  walk_at "go"
  refine pair_wp hP B1 (fun s hs => (hasc s hs).1) fun t2 d => ?_
  refine wp_set (by rw [d.nxt]) (lb_bl _ _) ?_
  replace hP := hP.dr d
  replace c1 : t2.cs a1 = some (.lst (O1.map tT)) := by rw [d.get (by omega)]; exact c1
  replace c2 : t2.cs (a1 + 1) = some (.lst (P1.map tT)) := by rw [d.get (by omega)]; exact c2
  clear d
  walk_at "go"
  walk_at "nk"
  clear hK
  refine wp_seqK ?_
  intro K hK
  walk_at "go"
  refine wp_eq (loc_len c1) ?_
  rw [List.length_map]
  walk_at "go"
  walk_at "nk"
  clear hK
  refine wp_seqK ?_
  intro K hK
  refine wp_mono (R := fun f s => f = .nx [some (.ro (ns.map .int)), some (.loc p), some (.tup [rowsP S, rowsP O, rowsP A]), some (.int (O1.length : Int)), some (rowsP S), some (rowsP S), some (.tup [.loc a1, .loc (a1 + 1)]), none] ∧ Pool p s ∧ s.cs a1 = some (.lst (O1.map tT)) ∧ s.cs (a1 + 1) = some (.lst (P1.map tT))) ?_ fun f t3 hR => ?_
  · rcases ask.k with ⟨rfl, rfl⟩ | ⟨kj, k8, k0, k6⟩
    · walk_at "go"
      exact ⟨rfl, hP, c1, c2⟩
    · walk_at "go"
      rw [List.length_map]
      refine wp_pos (decide_eq_true (show (0 : Int) < (O.length : Int) by omega)) ?_
      have B2 := base_of ask.s ask.sn kj k6 (by omega)
      have eO : O.length = O1.length := judge_len (fun s hs => (ask.s.ok s hs).nodup) kj j1
      obtain ⟨jl, js⟩ := judge_sub kj
      refine wp_seqK ?_
      intro K2 hK2
      walk_at "go"
      rw [List.length_map, eqv_int, eqN, decide_eq_true eO]
      walk_at "go"
      refine wp_eq (law_judged_eq (O := O) (P := A) hasc (by omega) rfl rfl (fun o ho => Nat.le_trans (k6 o ho) (by omega)) (by omega) (fun o ho => Nat.le_trans (hS6 o (js o ho)) (by omega))) ?_
      rw [kj]
      walk_at "go"
      walk_at "nk"
      walk_at "go"
      refine pair_wp hP B2 (fun s hs => (hasc s hs).1) fun t3 d => ?_
      refine wp_set (by rw [d.nxt]) (lb_bl _ _) ?_
      walk_at "go"
      exact ⟨rfl, hP.dr d, by rw [d.get (by omega)]; exact c1, by rw [d.get (by omega)]; exact c2⟩
  clear hP c1 c2
  obtain ⟨rfl, hP, c1, c2⟩ := hR
  walk_at "nk"
  clear hK
  refine wp_seqK ?_
  intro K hK
  walk_at "go"
  refine wp_eq (loc_asL c1) ?_
  walk_at "go"
  refine wp_eq (push_row (x := [5, 5]) c1 (by omega)) ?_
  replace hP : Pool p (t3.set a1 (.lst ((O1 ++ [[5, 5]]).map tT))) := hP.set (by omega)
  replace c2 : (t3.set a1 (.lst ((O1 ++ [[5, 5]]).map tT))).cs (a1 + 1) = some (.lst (P1.map tT)) := by rw [Sto.set_ne (by omega)]; exact c2
  generalize t3.set a1 (.lst ((O1 ++ [[5, 5]]).map tT)) = t4 at hP c2 ⊢
  clear c1
  walk_at "go"
  walk_at "nk"
  clear hK
  refine wp_seqK ?_
  intro K hK
  walk_at "go"
  refine wp_eq (loc_asL c2) ?_
  walk_at "go"
  refine wp_eq (loc_reverse c2) ?_
  generalize t4.set (a1 + 1) (.lst (P1.map tT).reverse) = t5
  clear c2 hP
  walk_at "go"
  walk_at "nk"
  clear hK
  refine wp_seqK ?_
  intro K hK
  obtain ⟨rS, rM⟩ := srs_rot (k := 1) ask.s
  have e1 : ∀ u env1, env1 = [some (.ro (ns.map .int)), some (.loc p), some (.tup [rowsP S, rowsP O, rowsP A]), some (.int (O1.length : Int)), some (rowsP S), some (rowsP S), some (.tup [.loc a1, .loc (a1 + 1)]), u] → dBin (opAdd false) (dSl false (dVar 5) (oSome (dCst (.int 1))) oNone) (dSl false (dVar 5) oNone (oSome (dCst (.int 1)))) env1 t5 = some (rowsP (S.drop 1 ++ S.take 1), t5) := fun u env1 he => by
    subst he
    have f1 := slL (m := false) (a := dVar 5) (lo := oSome (dCst (.int 1))) (hi := oNone) (env := [some (.ro (ns.map .int)), some (.loc p), some (.tup [rowsP S, rowsP O, rowsP A]), some (.int (O1.length : Int)), some (rowsP S), some (rowsP S), some (.tup [.loc a1, .loc (a1 + 1)]), u]) (st := t5) (v := rowsP S) (xs := S.map tT) (l := some ((1 : Nat) : Int)) (h := none) rfl rfl rfl rfl
    have f2 := slL (m := false) (a := dVar 5) (lo := oNone) (hi := oSome (dCst (.int 1))) (env := [some (.ro (ns.map .int)), some (.loc p), some (.tup [rowsP S, rowsP O, rowsP A]), some (.int (O1.length : Int)), some (rowsP S), some (rowsP S), some (.tup [.loc a1, .loc (a1 + 1)]), u]) (st := t5) (v := rowsP S) (xs := S.map tT) (l := none) (h := some ((1 : Nat) : Int)) rfl rfl rfl rfl
    rw [cutP_map, cutG_from ask.sn, mkV_eq (okL (by rw [List.length_map, List.length_drop]; omega))] at f1
    rw [cutP_map, cutG_to ask.sn, mkV_eq (okL (by rw [List.length_map, List.length_take]; omega))] at f2
    unfold dBin
    rw [f1, mb_some, f2, mb_some]
    exact addR (by rw [List.length_drop, List.length_take]; omega)
  refine wp_mb (wp_mb (wp_eq (a := [rowsP (S.drop 1 ++ S.take 1)]) (s := t5) ?_ ?_))
  · unfold aCons
    rw [e1 _ _ rfl, mb_some]
    rfl
  walk_at "go"
  refine least_wp rS fun O2 P2 j2' hO26 hO264 => ?_
  rw [if_pos rfl]
  have j2 := judge_same rM j2'
  clear j2'
  have c1 : ((t5.alloc (.lst (O2.map tT))).alloc (.lst (P2.map tT))).cs t5.nxt = some (.lst (O2.map tT)) := by
    rw [Sto.alloc_ne (by rw [Sto.alloc_nxt]; omega)]
    exact Sto.alloc_get (rows_lb _)
  have c2 : ((t5.alloc (.lst (O2.map tT))).alloc (.lst (P2.map tT))).cs (t5.nxt + 1) = some (.lst (P2.map tT)) := Sto.alloc_get (rows_lb _)
  generalize (t5.alloc (.lst (O2.map tT))).alloc (.lst (P2.map tT)) = t6 at c1 c2 ⊢
  generalize t5.nxt = a2 at c1 c2 ⊢
  obtain ⟨jl2, js2⟩ := judge_sub j2
  have e2 : O2.length = O1.length := judge_len (fun s hs => (ask.s.ok s hs).nodup) j2 j1
  have k3 : ∀ o ∈ O2, o.length ≤ 1000 := fun o ho => Nat.le_trans (hO26 o ho) (by omega)
  have k4 : ∀ o ∈ P2, o.length ≤ 1000 := fun o ho => Nat.le_trans (hS6 o (js2 o ho)) (by omega)
  walk_at "go"
  walk_at "nk"
  clear hK
  refine wp_seqK ?_
  intro K hK
  walk_at "go"
  refine wp_eq (law_kinds_eq (lst_loc c1) (lst_loc c2) (by omega) (by omega) k3 k4) ?_
  walk_at "go"
  refine wp_eq (same_ok (v := rowsP S) rfl rfl hplain) ?_
  walk_at "go"
  walk_at "nk"
  clear hK
  walk_at "go"
  refine wp_eq (law_judged_eq hasc (by omega) (lst_loc c1) (lst_loc c2) k3 (by omega) k4) ?_
  rw [j2]
  walk_at "go"
  refine wp_eq (loc_len c1) ?_
  rw [List.length_map]
  walk_at "go"
  rw [eqv_int, eqN, decide_eq_true e2]
  walk_at "go"
  first | rfl | exact wp_ret rfl
end DL

namespace DL
open PySem PySem.Spec PyProof.Rows L2
theorem all_mk {l : PySem.W.OpenLaw} {w : World} {K : PySem.W.Frag} {h : Heap} {mg : Str → Option Value} {fa : Addr} (X : K.In h) (G : h.Ns mainGlobals mg) (hfa : mg "law" = some (.ref fa))
    (hl : ∀ ns : List Int, ns.length ≤ 63 → ∃ st, f_law [.ro (ns.map .int)] st0 = some (.bl true, st))
    {f1 f2 f3 f4 f5 f6 f7 f8 f9 f10 f11 f12 f13 f14 f15 f16 f17 f18 f19 f20 f21 f22 f23 f24 f25 f26 f27 f28 f29 f30 : Addr}
    {od1 an1 od2 an2 od3 an3 od4 an4 od5 an5 od6 an6 od7 an7 od8 an8 od9 an9 od10 an10 od11 an11 od12 an12 od13 an13 od14 an14 od15 an15 od16 an16 od17 an17 od18 an18 od19 an19 od20 an20 od21 an21 od22 an22 od23 an23 od24 an24 od25 an25 od26 an26 od27 an27 od28 an28 od29 an29 od30 an30 : Option Addr} {sl1 sl2 sl3 sl4 sl5 sl6 sl7 sl8 sl9 sl10 sl11 sl12 sl13 sl14 sl15 sl16 sl17 sl18 sl19 sl20 sl21 sl22 sl23 sl24 sl25 sl26 sl27 sl28 sl29 sl30 : Array (Option Value)} {oc1 kV1 dc1 pm1 cd1 ct1 oc2 kV2 dc2 pm2 cd2 ct2 oc3 kV3 dc3 pm3 cd3 ct3 oc4 kV4 dc4 pm4 cd4 ct4 oc5 kV5 dc5 pm5 cd5 ct5 oc6 kV6 dc6 pm6 cd6 ct6 oc7 kV7 dc7 pm7 cd7 ct7 oc8 kV8 dc8 pm8 cd8 ct8 oc9 kV9 dc9 pm9 cd9 ct9 oc10 kV10 dc10 pm10 cd10 ct10 oc11 kV11 dc11 pm11 cd11 ct11 oc12 kV12 dc12 pm12 cd12 ct12 oc13 kV13 dc13 pm13 cd13 ct13 oc14 kV14 dc14 pm14 cd14 ct14 oc15 kV15 dc15 pm15 cd15 ct15 oc16 kV16 dc16 pm16 cd16 ct16 oc17 kV17 dc17 pm17 cd17 ct17 oc18 kV18 dc18 pm18 cd18 ct18 oc19 kV19 dc19 pm19 cd19 ct19 oc20 kV20 dc20 pm20 cd20 ct20 oc21 kV21 dc21 pm21 cd21 ct21 oc22 kV22 dc22 pm22 cd22 ct22 oc23 kV23 dc23 pm23 cd23 ct23 oc24 kV24 dc24 pm24 cd24 ct24 oc25 kV25 dc25 pm25 cd25 ct25 oc26 kV26 dc26 pm26 cd26 ct26 oc27 kV27 dc27 pm27 cd27 ct27 oc28 kV28 dc28 pm28 cd28 ct28 oc29 kV29 dc29 pm29 cd29 ct29 oc30 kV30 dc30 pm30 cd30 ct30 : Value}
    (a1 : PySem.W.nsIn K mainGlobals "has_all" = some (some (.ref f1))) (l1 : K.lookup f1 = some ⟨oc1, od1, .func (PySem.W.fnOf "has_all" "has_all" (defArgs s_has_all) (defBody s_has_all) (defScope s_has_all) .none kV1 dc1 pm1 an1 cd1 ct1), sl1⟩) (c1 : PySem.W.codeIn K cd1 "has_all" = true) (k1 : PySem.W.keepIn K (.ref f1) = true)
    (a2 : PySem.W.nsIn K mainGlobals "greater_searches" = some (some (.ref f2))) (l2 : K.lookup f2 = some ⟨oc2, od2, .func (PySem.W.fnOf "greater_searches" "greater_searches" (defArgs s_greater_searches) (defBody s_greater_searches) (defScope s_greater_searches) .none kV2 dc2 pm2 an2 cd2 ct2), sl2⟩) (c2 : PySem.W.codeIn K cd2 "greater_searches" = true) (k2 : PySem.W.keepIn K (.ref f2) = true)
    (a3 : PySem.W.nsIn K mainGlobals "free_target" = some (some (.ref f3))) (l3 : K.lookup f3 = some ⟨oc3, od3, .func (PySem.W.fnOf "free_target" "free_target" (defArgs s_free_target) (defBody s_free_target) (defScope s_free_target) .none kV3 dc3 pm3 an3 cd3 ct3), sl3⟩) (c3 : PySem.W.codeIn K cd3 "free_target" = true) (k3 : PySem.W.keepIn K (.ref f3) = true)
    (a4 : PySem.W.nsIn K mainGlobals "greatest_matching" = some (some (.ref f4))) (l4 : K.lookup f4 = some ⟨oc4, od4, .func (PySem.W.fnOf "greatest_matching" "greatest_matching" (defArgs s_greatest_matching) (defBody s_greatest_matching) (defScope s_greatest_matching) .none kV4 dc4 pm4 an4 cd4 ct4), sl4⟩) (c4 : PySem.W.codeIn K cd4 "greatest_matching" = true) (k4 : PySem.W.keepIn K (.ref f4) = true)
    (a5 : PySem.W.nsIn K mainGlobals "order_along" = some (some (.ref f5))) (l5 : K.lookup f5 = some ⟨oc5, od5, .func (PySem.W.fnOf "order_along" "order_along" (defArgs s_order_along) (defBody s_order_along) (defScope s_order_along) .none kV5 dc5 pm5 an5 cd5 ct5), sl5⟩) (c5 : PySem.W.codeIn K cd5 "order_along" = true) (k5 : PySem.W.keepIn K (.ref f5) = true)
    (a6 : PySem.W.nsIn K mainGlobals "searches_apart" = some (some (.ref f6))) (l6 : K.lookup f6 = some ⟨oc6, od6, .func (PySem.W.fnOf "searches_apart" "searches_apart" (defArgs s_searches_apart) (defBody s_searches_apart) (defScope s_searches_apart) .none kV6 dc6 pm6 an6 cd6 ct6), sl6⟩) (c6 : PySem.W.codeIn K cd6 "searches_apart" = true) (k6 : PySem.W.keepIn K (.ref f6) = true)
    (a7 : PySem.W.nsIn K mainGlobals "least_orders" = some (some (.ref f7))) (l7 : K.lookup f7 = some ⟨oc7, od7, .func (PySem.W.fnOf "least_orders" "least_orders" (defArgs s_least_orders) (defBody s_least_orders) (defScope s_least_orders) .none kV7 dc7 pm7 an7 cd7 ct7), sl7⟩) (c7 : PySem.W.codeIn K cd7 "least_orders" = true) (k7 : PySem.W.keepIn K (.ref f7) = true)
    (a8 : PySem.W.nsIn K mainGlobals "serves" = some (some (.ref f8))) (l8 : K.lookup f8 = some ⟨oc8, od8, .func (PySem.W.fnOf "serves" "serves" (defArgs s_serves) (defBody s_serves) (defScope s_serves) .none kV8 dc8 pm8 an8 cd8 ct8), sl8⟩) (c8 : PySem.W.codeIn K cd8 "serves" = true) (k8 : PySem.W.keepIn K (.ref f8) = true)
    (a9 : PySem.W.nsIn K mainGlobals "is_order" = some (some (.ref f9))) (l9 : K.lookup f9 = some ⟨oc9, od9, .func (PySem.W.fnOf "is_order" "is_order" (defArgs s_is_order) (defBody s_is_order) (defScope s_is_order) .none kV9 dc9 pm9 an9 cd9 ct9), sl9⟩) (c9 : PySem.W.codeIn K cd9 "is_order" = true) (k9 : PySem.W.keepIn K (.ref f9) = true)
    (a10 : PySem.W.nsIn K mainGlobals "are_apart" = some (some (.ref f10))) (l10 : K.lookup f10 = some ⟨oc10, od10, .func (PySem.W.fnOf "are_apart" "are_apart" (defArgs s_are_apart) (defBody s_are_apart) (defScope s_are_apart) .none kV10 dc10 pm10 an10 cd10 ct10), sl10⟩) (c10 : PySem.W.codeIn K cd10 "are_apart" = true) (k10 : PySem.W.keepIn K (.ref f10) = true)
    (a11 : PySem.W.nsIn K mainGlobals "shows_orders" = some (some (.ref f11))) (l11 : K.lookup f11 = some ⟨oc11, od11, .func (PySem.W.fnOf "shows_orders" "shows_orders" (defArgs s_shows_orders) (defBody s_shows_orders) (defScope s_shows_orders) .none kV11 dc11 pm11 an11 cd11 ct11), sl11⟩) (c11 : PySem.W.codeIn K cd11 "shows_orders" = true) (k11 : PySem.W.keepIn K (.ref f11) = true)
    (a12 : PySem.W.nsIn K mainGlobals "_law_mix" = some (some (.ref f12))) (l12 : K.lookup f12 = some ⟨oc12, od12, .func (PySem.W.fnOf "_law_mix" "_law_mix" (defArgs s_law_mix) (defBody s_law_mix) (defScope s_law_mix) .none kV12 dc12 pm12 an12 cd12 ct12), sl12⟩) (c12 : PySem.W.codeIn K cd12 "_law_mix" = true) (k12 : PySem.W.keepIn K (.ref f12) = true)
    (a13 : PySem.W.nsIn K mainGlobals "_law_pool" = some (some (.ref f13))) (l13 : K.lookup f13 = some ⟨oc13, od13, .func (PySem.W.fnOf "_law_pool" "_law_pool" (defArgs s_law_pool) (defBody s_law_pool) (defScope s_law_pool) .none kV13 dc13 pm13 an13 cd13 ct13), sl13⟩) (c13 : PySem.W.codeIn K cd13 "_law_pool" = true) (k13 : PySem.W.keepIn K (.ref f13) = true)
    (a14 : PySem.W.nsIn K mainGlobals "_law_draw" = some (some (.ref f14))) (l14 : K.lookup f14 = some ⟨oc14, od14, .func (PySem.W.fnOf "_law_draw" "_law_draw" (defArgs s_law_draw) (defBody s_law_draw) (defScope s_law_draw) .none kV14 dc14 pm14 an14 cd14 ct14), sl14⟩) (c14 : PySem.W.codeIn K cd14 "_law_draw" = true) (k14 : PySem.W.keepIn K (.ref f14) = true)
    (a15 : PySem.W.nsIn K mainGlobals "_law_pick" = some (some (.ref f15))) (l15 : K.lookup f15 = some ⟨oc15, od15, .func (PySem.W.fnOf "_law_pick" "_law_pick" (defArgs s_law_pick) (defBody s_law_pick) (defScope s_law_pick) .none kV15 dc15 pm15 an15 cd15 ct15), sl15⟩) (c15 : PySem.W.codeIn K cd15 "_law_pick" = true) (k15 : PySem.W.keepIn K (.ref f15) = true)
    (a16 : PySem.W.nsIn K mainGlobals "_law_whole" = some (some (.ref f16))) (l16 : K.lookup f16 = some ⟨oc16, od16, .func (PySem.W.fnOf "_law_whole" "_law_whole" (defArgs s_law_whole) (defBody s_law_whole) (defScope s_law_whole) .none kV16 dc16 pm16 an16 cd16 ct16), sl16⟩) (c16 : PySem.W.codeIn K cd16 "_law_whole" = true) (k16 : PySem.W.keepIn K (.ref f16) = true)
    (a17 : PySem.W.nsIn K mainGlobals "_law_plain" = some (some (.ref f17))) (l17 : K.lookup f17 = some ⟨oc17, od17, .func (PySem.W.fnOf "_law_plain" "_law_plain" (defArgs s_law_plain) (defBody s_law_plain) (defScope s_law_plain) .none kV17 dc17 pm17 an17 cd17 ct17), sl17⟩) (c17 : PySem.W.codeIn K cd17 "_law_plain" = true) (k17 : PySem.W.keepIn K (.ref f17) = true)
    (a18 : PySem.W.nsIn K mainGlobals "_law_same" = some (some (.ref f18))) (l18 : K.lookup f18 = some ⟨oc18, od18, .func (PySem.W.fnOf "_law_same" "_law_same" (defArgs s_law_same) (defBody s_law_same) (defScope s_law_same) .none kV18 dc18 pm18 an18 cd18 ct18), sl18⟩) (c18 : PySem.W.codeIn K cd18 "_law_same" = true) (k18 : PySem.W.keepIn K (.ref f18) = true)
    (a19 : PySem.W.nsIn K mainGlobals "_law_columns" = some (some (.ref f19))) (l19 : K.lookup f19 = some ⟨oc19, od19, .func (PySem.W.fnOf "_law_columns" "_law_columns" (defArgs s_law_columns) (defBody s_law_columns) (defScope s_law_columns) .none kV19 dc19 pm19 an19 cd19 ct19), sl19⟩) (c19 : PySem.W.codeIn K cd19 "_law_columns" = true) (k19 : PySem.W.keepIn K (.ref f19) = true)
    (a20 : PySem.W.nsIn K mainGlobals "_law_shuffled" = some (some (.ref f20))) (l20 : K.lookup f20 = some ⟨oc20, od20, .func (PySem.W.fnOf "_law_shuffled" "_law_shuffled" (defArgs s_law_shuffled) (defBody s_law_shuffled) (defScope s_law_shuffled) .none kV20 dc20 pm20 an20 cd20 ct20), sl20⟩) (c20 : PySem.W.codeIn K cd20 "_law_shuffled" = true) (k20 : PySem.W.keepIn K (.ref f20) = true)
    (a21 : PySem.W.nsIn K mainGlobals "_law_free" = some (some (.ref f21))) (l21 : K.lookup f21 = some ⟨oc21, od21, .func (PySem.W.fnOf "_law_free" "_law_free" (defArgs s_law_free) (defBody s_law_free) (defScope s_law_free) .none kV21 dc21 pm21 an21 cd21 ct21), sl21⟩) (c21 : PySem.W.codeIn K cd21 "_law_free" = true) (k21 : PySem.W.keepIn K (.ref f21) = true)
    (a22 : PySem.W.nsIn K mainGlobals "_law_known" = some (some (.ref f22))) (l22 : K.lookup f22 = some ⟨oc22, od22, .func (PySem.W.fnOf "_law_known" "_law_known" (defArgs s_law_known) (defBody s_law_known) (defScope s_law_known) .none kV22 dc22 pm22 an22 cd22 ct22), sl22⟩) (c22 : PySem.W.codeIn K cd22 "_law_known" = true) (k22 : PySem.W.keepIn K (.ref f22) = true)
    (a23 : PySem.W.nsIn K mainGlobals "_law_holds" = some (some (.ref f23))) (l23 : K.lookup f23 = some ⟨oc23, od23, .func (PySem.W.fnOf "_law_holds" "_law_holds" (defArgs s_law_holds) (defBody s_law_holds) (defScope s_law_holds) .none kV23 dc23 pm23 an23 cd23 ct23), sl23⟩) (c23 : PySem.W.codeIn K cd23 "_law_holds" = true) (k23 : PySem.W.keepIn K (.ref f23) = true)
    (a24 : PySem.W.nsIn K mainGlobals "_law_served" = some (some (.ref f24))) (l24 : K.lookup f24 = some ⟨oc24, od24, .func (PySem.W.fnOf "_law_served" "_law_served" (defArgs s_law_served) (defBody s_law_served) (defScope s_law_served) .none kV24 dc24 pm24 an24 cd24 ct24), sl24⟩) (c24 : PySem.W.codeIn K cd24 "_law_served" = true) (k24 : PySem.W.keepIn K (.ref f24) = true)
    (a25 : PySem.W.nsIn K mainGlobals "_law_judged" = some (some (.ref f25))) (l25 : K.lookup f25 = some ⟨oc25, od25, .func (PySem.W.fnOf "_law_judged" "_law_judged" (defArgs s_law_judged) (defBody s_law_judged) (defScope s_law_judged) .none kV25 dc25 pm25 an25 cd25 ct25), sl25⟩) (c25 : PySem.W.codeIn K cd25 "_law_judged" = true) (k25 : PySem.W.keepIn K (.ref f25) = true)
    (a26 : PySem.W.nsIn K mainGlobals "_law_kinds" = some (some (.ref f26))) (l26 : K.lookup f26 = some ⟨oc26, od26, .func (PySem.W.fnOf "_law_kinds" "_law_kinds" (defArgs s_law_kinds) (defBody s_law_kinds) (defScope s_law_kinds) .none kV26 dc26 pm26 an26 cd26 ct26), sl26⟩) (c26 : PySem.W.codeIn K cd26 "_law_kinds" = true) (k26 : PySem.W.keepIn K (.ref f26) = true)
    (a27 : PySem.W.nsIn K mainGlobals "_law_shown" = some (some (.ref f27))) (l27 : K.lookup f27 = some ⟨oc27, od27, .func (PySem.W.fnOf "_law_shown" "_law_shown" (defArgs s_law_shown) (defBody s_law_shown) (defScope s_law_shown) .none kV27 dc27 pm27 an27 cd27 ct27), sl27⟩) (c27 : PySem.W.codeIn K cd27 "_law_shown" = true) (k27 : PySem.W.keepIn K (.ref f27) = true)
    (a28 : PySem.W.nsIn K mainGlobals "_law_spoilt" = some (some (.ref f28))) (l28 : K.lookup f28 = some ⟨oc28, od28, .func (PySem.W.fnOf "_law_spoilt" "_law_spoilt" (defArgs s_law_spoilt) (defBody s_law_spoilt) (defScope s_law_spoilt) .none kV28 dc28 pm28 an28 cd28 ct28), sl28⟩) (c28 : PySem.W.codeIn K cd28 "_law_spoilt" = true) (k28 : PySem.W.keepIn K (.ref f28) = true)
    (a29 : PySem.W.nsIn K mainGlobals "_law_pair_right" = some (some (.ref f29))) (l29 : K.lookup f29 = some ⟨oc29, od29, .func (PySem.W.fnOf "_law_pair_right" "_law_pair_right" (defArgs s_law_pair_right) (defBody s_law_pair_right) (defScope s_law_pair_right) .none kV29 dc29 pm29 an29 cd29 ct29), sl29⟩) (c29 : PySem.W.codeIn K cd29 "_law_pair_right" = true) (k29 : PySem.W.keepIn K (.ref f29) = true)
    (a30 : PySem.W.nsIn K mainGlobals "law" = some (some (.ref f30))) (l30 : K.lookup f30 = some ⟨oc30, od30, .func (PySem.W.fnOf "law" "law" (defArgs s_law) (defBody s_law) (defScope s_law) .none kV30 dc30 pm30 an30 cd30 ct30), sl30⟩) (c30 : PySem.W.codeIn K cd30 "law" = true) (k30 : PySem.W.keepIn K (.ref f30) = true)
    (z0 : PySem.W.nsIn K mainGlobals "len" = some none)
    (z1 : PySem.W.nsIn K mainGlobals "abs" = some none)
    (z2 : PySem.W.nsIn K mainGlobals "int" = some none)
    (z3 : PySem.W.nsIn K mainGlobals "max" = some none)
    (z4 : PySem.W.nsIn K mainGlobals "min" = some none)
    (z5 : PySem.W.nsIn K mainGlobals "tuple" = some none)
    (z6 : PySem.W.nsIn K mainGlobals "list" = some none)
    (z7 : PySem.W.nsIn K mainGlobals "sorted" = some none)
    (z8 : PySem.W.nsIn K mainGlobals "isinstance" = some none)
    (z9 : PySem.W.nsIn K mainGlobals "range" = some none)
    (z10 : PySem.W.nsIn K mainGlobals "bool" = some none)
    (z11 : PySem.W.nsIn K mainGlobals "str" = some none)
    (z12 : PySem.W.nsIn K mainGlobals "dict" = some none)
    (z13 : PySem.W.nsIn K mainGlobals "set" = some none)
    (z14 : PySem.W.nsIn K mainGlobals "reversed" = some none)
    (z15 : PySem.W.nsIn K mainGlobals "sum" = some none)
    (z16 : PySem.W.nsIn K mainGlobals "any" = some none)
    (z17 : PySem.W.nsIn K mainGlobals "enumerate" = some none)
    {fC0 : Addr} {oC0 : Option Addr} {nC0 : Nat} {sC0 : Array (Option Value)} {tC0_0 tC0_1 tC0_2 tC0_3 tC0_4 tC0_5 : Tok} (aC0 : PySem.W.nsIn K mainGlobals "COLUMNS" = some (some (.ref fC0))) (lC0 : K.lookup fC0 = some ⟨.type "tuple", oC0, .seq #[.int 0 tC0_0, .int 1 tC0_1, .int 2 tC0_2, .int 3 tC0_3, .int 4 tC0_4, .int 5 tC0_5] nC0, sC0⟩)
    : ∃ fd : FuncData, (∀ (s : Shared) (v : Value), BindsTo s fd ⟨[v], []⟩ [("script", v)]) ∧ ∀ base : Heap, K.In base → base.Ns mainGlobals mg → FnOk l.prog w K mg base CX0 16 fa fd ["script"] (spLaw K) := by
  have e := hfa.symm.trans (PySem.W.mg_of X G a30)
  cases e
  have B : BsOk mg := by
    intro n hn
    have hn : n ∈ bs := List.contains_iff_mem.mp hn
    simp only [bs, List.mem_cons, List.not_mem_nil, or_false] at hn
    rcases hn with rfl | rfl | rfl | rfl | rfl | rfl | rfl | rfl | rfl | rfl | rfl | rfl | rfl | rfl | rfl | rfl | rfl | rfl
    · exact PySem.W.mg_none_of X G z0
    · exact PySem.W.mg_none_of X G z1
    · exact PySem.W.mg_none_of X G z2
    · exact PySem.W.mg_none_of X G z3
    · exact PySem.W.mg_none_of X G z4
    · exact PySem.W.mg_none_of X G z5
    · exact PySem.W.mg_none_of X G z6
    · exact PySem.W.mg_none_of X G z7
    · exact PySem.W.mg_none_of X G z8
    · exact PySem.W.mg_none_of X G z9
    · exact PySem.W.mg_none_of X G z10
    · exact PySem.W.mg_none_of X G z11
    · exact PySem.W.mg_none_of X G z12
    · exact PySem.W.mg_none_of X G z13
    · exact PySem.W.mg_none_of X G z14
    · exact PySem.W.mg_none_of X G z15
    · exact PySem.W.mg_none_of X G z16
    · exact PySem.W.mg_none_of X G z17
  refine ⟨PySem.W.fnOf "law" "law" (defArgs s_law) (defBody s_law) (defScope s_law) .none kV30 dc30 pm30 an30 cd30 ct30, fun s v => .of_eq rfl, fun base _ _ => ?_⟩
  have CC0 : CAll K mg [("COLUMNS", (.tup [.int 0, .int 1, .int 2, .int 3, .int 4, .int 5]))] := by
    intro x v hx
    rw [List.lookup_cons] at hx
    split at hx
    · rename_i e
      cases hx
      have e := eq_of_beq e
      subst e
      refine ⟨.ref fC0, .ref fC0, PySem.W.mg_of X G aC0, rfl, fun F ρ n => ?_⟩
      rw [RelP]
      refine ⟨fC0, [V.int 0, V.int 1, V.int 2, V.int 3, V.int 4, V.int 5], rfl, .inr ⟨_, _, _, lC0, rfl, rfl, ?_, .cons ⟨_, rfl⟩ (.cons ⟨_, rfl⟩ (.cons ⟨_, rfl⟩ (.cons ⟨_, rfl⟩ (.cons ⟨_, rfl⟩ (.cons ⟨_, rfl⟩ (.nil))))))⟩, ?_⟩
      · exact Nat.le_trans (m := 6) (Nat.le_refl _) (by decide)
      · exact RelPs.ints [0, 1, 2, 3, 4, 5]
    · cases hx
  have E1 := e_has_all (P := l.prog) (w := w) (base := base) (fun_mk (st := s_has_all) l1 c1 k1) (PySem.W.mg_of X G a1) B
  have E2 := e_greater_searches (P := l.prog) (w := w) (base := base) (fun_mk (st := s_greater_searches) l2 c2 k2) (PySem.W.mg_of X G a2) B E1
  have E3 := e_free_target (P := l.prog) (w := w) (base := base) (fun_mk (st := s_free_target) l3 c3 k3) (PySem.W.mg_of X G a3) B
  have E4 := e_greatest_matching (P := l.prog) (w := w) (base := base) (fun_mk (st := s_greatest_matching) l4 c4 k4) (PySem.W.mg_of X G a4) B E3
  have E5 := e_order_along (P := l.prog) (w := w) (base := base) (fun_mk (st := s_order_along) l5 c5 k5) (PySem.W.mg_of X G a5) B
  have E6 := e_searches_apart (P := l.prog) (w := w) (base := base) (fun_mk (st := s_searches_apart) l6 c6 k6) (PySem.W.mg_of X G a6) B
  have E7 := e_least_orders (P := l.prog) (w := w) (base := base) (fun_mk (st := s_least_orders) l7 c7 k7) (PySem.W.mg_of X G a7) B E2 E4 E5 E6
  have E8 := e_serves (P := l.prog) (w := w) (base := base) (fun_mk (st := s_serves) l8 c8 k8) (PySem.W.mg_of X G a8) B E1
  have E9 := e_is_order (P := l.prog) (w := w) (base := base) (fun_mk (st := s_is_order) l9 c9 k9) (PySem.W.mg_of X G a9) B CC0
  have E10 := e_are_apart (P := l.prog) (w := w) (base := base) (fun_mk (st := s_are_apart) l10 c10 k10) (PySem.W.mg_of X G a10) B E1
  have E11 := e_shows_orders (P := l.prog) (w := w) (base := base) (fun_mk (st := s_shows_orders) l11 c11 k11) (PySem.W.mg_of X G a11) B E10 E9 E8
  have E12 := e_law_mix (P := l.prog) (w := w) (base := base) (fun_mk (st := s_law_mix) l12 c12 k12) (PySem.W.mg_of X G a12) B
  have E13 := e_law_pool (P := l.prog) (w := w) (base := base) (fun_mk (st := s_law_pool) l13 c13 k13) (PySem.W.mg_of X G a13) B E12
  have E14 := e_law_draw (P := l.prog) (w := w) (base := base) (fun_mk (st := s_law_draw) l14 c14 k14) (PySem.W.mg_of X G a14) B E12
  have E15 := e_law_pick (P := l.prog) (w := w) (base := base) (fun_mk (st := s_law_pick) l15 c15 k15) (PySem.W.mg_of X G a15) B E14
  have E16 := e_law_whole (P := l.prog) (w := w) (base := base) (fun_mk (st := s_law_whole) l16 c16 k16) (PySem.W.mg_of X G a16) B
  have E17 := e_law_plain (P := l.prog) (w := w) (base := base) (fun_mk (st := s_law_plain) l17 c17 k17) (PySem.W.mg_of X G a17) B E16 6
  have E18 := e_law_same (P := l.prog) (w := w) (base := base) (fun_mk (st := s_law_same) l18 c18 k18) (PySem.W.mg_of X G a18) B E16 E17 6
  have E19 := e_law_columns (P := l.prog) (w := w) (base := base) (fun_mk (st := s_law_columns) l19 c19 k19) (PySem.W.mg_of X G a19) B
  have E20 := e_law_shuffled (P := l.prog) (w := w) (base := base) (fun_mk (st := s_law_shuffled) l20 c20 k20) (PySem.W.mg_of X G a20) B E14
  have E21 := e_law_free (P := l.prog) (w := w) (base := base) (fun_mk (st := s_law_free) l21 c21 k21) (PySem.W.mg_of X G a21) B E14 E19
  have E22 := e_law_known (P := l.prog) (w := w) (base := base) (fun_mk (st := s_law_known) l22 c22 k22) (PySem.W.mg_of X G a22) B E15 E14 E19 E20
  have E23 := e_law_holds (P := l.prog) (w := w) (base := base) (fun_mk (st := s_law_holds) l23 c23 k23) (PySem.W.mg_of X G a23) B
  have E24 := e_law_served (P := l.prog) (w := w) (base := base) (fun_mk (st := s_law_served) l24 c24 k24) (PySem.W.mg_of X G a24) B
  have E25 := e_law_judged (P := l.prog) (w := w) (base := base) (fun_mk (st := s_law_judged) l25 c25 k25) (PySem.W.mg_of X G a25) B E24 E23
  have E26 := e_law_kinds (P := l.prog) (w := w) (base := base) (fun_mk (st := s_law_kinds) l26 c26 k26) (PySem.W.mg_of X G a26) B E16
  have E27 := e_law_shown (P := l.prog) (w := w) (base := base) (fun_mk (st := s_law_shown) l27 c27 k27) (PySem.W.mg_of X G a27) B E18 E11
  have E28 := e_law_spoilt (P := l.prog) (w := w) (base := base) (fun_mk (st := s_law_spoilt) l28 c28 k28) (PySem.W.mg_of X G a28) B E14 E15
  have E29 := e_law_pair_right (P := l.prog) (w := w) (base := base) (fun_mk (st := s_law_pair_right) l29 c29 k29) (PySem.W.mg_of X G a29) B E28 E27 E25
  unfold f_law at hl
  exact law_end (fn_tr (k := 15) (fun_mk (st := s_law) l30 c30 k30) sc_law (GAll.cons (E13.mono (by decide)) (GAll.cons (E22.mono (by decide)) (GAll.cons (E7.mono (by decide)) (GAll.cons (E14.mono (by decide)) (GAll.cons (E29.mono (by decide)) (GAll.cons (E25.mono (by decide)) (GAll.cons (E21.mono (by decide)) (GAll.cons (E26.mono (by decide)) (GAll.cons (E18.mono (by decide)) GAll.nil))))))))) B CAll.nil t_law) hl
end DL
open DL
open PySem PySem.W PyProof.Rows in
set_option maxRecDepth 100000 in
set_option maxHeartbeats 0 in
theorem PySem.Challenge.cw_deltastead_k11_whole_least_orders_holds : PySem.Challenge.rw_deltastead_k11_whole_least_orders.Holds := by
  w_on; o_law; k_head; (case hw => w_witness2)
  k_fill
  refine DL.walk (l := PySem.Challenge.rw_deltastead_k11_whole_least_orders) (k := 16) (by decide) rfl rfl (fun w h Y => PySem.W.kIn_of Y) ?F
  case F =>
    intro w mg fa h KX G hmg
    refine' all_mk KX G hmg law_true ?a1 ?l1 ?c1 ?k1 ?a2 ?l2 ?c2 ?k2 ?a3 ?l3 ?c3 ?k3 ?a4 ?l4 ?c4 ?k4 ?a5 ?l5 ?c5 ?k5 ?a6 ?l6 ?c6 ?k6 ?a7 ?l7 ?c7 ?k7 ?a8 ?l8 ?c8 ?k8 ?a9 ?l9 ?c9 ?k9 ?a10 ?l10 ?c10 ?k10 ?a11 ?l11 ?c11 ?k11 ?a12 ?l12 ?c12 ?k12 ?a13 ?l13 ?c13 ?k13 ?a14 ?l14 ?c14 ?k14 ?a15 ?l15 ?c15 ?k15 ?a16 ?l16 ?c16 ?k16 ?a17 ?l17 ?c17 ?k17 ?a18 ?l18 ?c18 ?k18 ?a19 ?l19 ?c19 ?k19 ?a20 ?l20 ?c20 ?k20 ?a21 ?l21 ?c21 ?k21 ?a22 ?l22 ?c22 ?k22 ?a23 ?l23 ?c23 ?k23 ?a24 ?l24 ?c24 ?k24 ?a25 ?l25 ?c25 ?k25 ?a26 ?l26 ?c26 ?k26 ?a27 ?l27 ?c27 ?k27 ?a28 ?l28 ?c28 ?k28 ?a29 ?l29 ?c29 ?k29 ?a30 ?l30 ?c30 ?k30 ?z0 ?z1 ?z2 ?z3 ?z4 ?z5 ?z6 ?z7 ?z8 ?z9 ?z10 ?z11 ?z12 ?z13 ?z14 ?z15 ?z16 ?z17 ?aC0 ?lC0
    (case a1 => k_is)
    (case l1 => k_is)
    (case c1 => k_is)
    (case k1 => k_is)
    (case a2 => k_is)
    (case l2 => k_is)
    (case c2 => k_is)
    (case k2 => k_is)
    (case a3 => k_is)
    (case l3 => k_is)
    (case c3 => k_is)
    (case k3 => k_is)
    (case a4 => k_is)
    (case l4 => k_is)
    (case c4 => k_is)
    (case k4 => k_is)
    (case a5 => k_is)
    (case l5 => k_is)
    (case c5 => k_is)
    (case k5 => k_is)
    (case a6 => k_is)
    (case l6 => k_is)
    (case c6 => k_is)
    (case k6 => k_is)
    (case a7 => k_is)
    (case l7 => k_is)
    (case c7 => k_is)
    (case k7 => k_is)
    (case a8 => k_is)
    (case l8 => k_is)
    (case c8 => k_is)
    (case k8 => k_is)
    (case a9 => k_is)
    (case l9 => k_is)
    (case c9 => k_is)
    (case k9 => k_is)
    (case a10 => k_is)
    (case l10 => k_is)
    (case c10 => k_is)
    (case k10 => k_is)
    (case a11 => k_is)
    (case l11 => k_is)
    (case c11 => k_is)
    (case k11 => k_is)
    (case a12 => k_is)
    (case l12 => k_is)
    (case c12 => k_is)
    (case k12 => k_is)
    (case a13 => k_is)
    (case l13 => k_is)
    (case c13 => k_is)
    (case k13 => k_is)
    (case a14 => k_is)
    (case l14 => k_is)
    (case c14 => k_is)
    (case k14 => k_is)
    (case a15 => k_is)
    (case l15 => k_is)
    (case c15 => k_is)
    (case k15 => k_is)
    (case a16 => k_is)
    (case l16 => k_is)
    (case c16 => k_is)
    (case k16 => k_is)
    (case a17 => k_is)
    (case l17 => k_is)
    (case c17 => k_is)
    (case k17 => k_is)
    (case a18 => k_is)
    (case l18 => k_is)
    (case c18 => k_is)
    (case k18 => k_is)
    (case a19 => k_is)
    (case l19 => k_is)
    (case c19 => k_is)
    (case k19 => k_is)
    (case a20 => k_is)
    (case l20 => k_is)
    (case c20 => k_is)
    (case k20 => k_is)
    (case a21 => k_is)
    (case l21 => k_is)
    (case c21 => k_is)
    (case k21 => k_is)
    (case a22 => k_is)
    (case l22 => k_is)
    (case c22 => k_is)
    (case k22 => k_is)
    (case a23 => k_is)
    (case l23 => k_is)
    (case c23 => k_is)
    (case k23 => k_is)
    (case a24 => k_is)
    (case l24 => k_is)
    (case c24 => k_is)
    (case k24 => k_is)
    (case a25 => k_is)
    (case l25 => k_is)
    (case c25 => k_is)
    (case k25 => k_is)
    (case a26 => k_is)
    (case l26 => k_is)
    (case c26 => k_is)
    (case k26 => k_is)
    (case a27 => k_is)
    (case l27 => k_is)
    (case c27 => k_is)
    (case k27 => k_is)
    (case a28 => k_is)
    (case l28 => k_is)
    (case c28 => k_is)
    (case k28 => k_is)
    (case a29 => k_is)
    (case l29 => k_is)
    (case c29 => k_is)
    (case k29 => k_is)
    (case a30 => k_is)
    (case l30 => k_is)
    (case c30 => k_is)
    (case k30 => k_is)
    (case z0 => k_is)
    (case z1 => k_is)
    (case z2 => k_is)
    (case z3 => k_is)
    (case z4 => k_is)
    (case z5 => k_is)
    (case z6 => k_is)
    (case z7 => k_is)
    (case z8 => k_is)
    (case z9 => k_is)
    (case z10 => k_is)
    (case z11 => k_is)
    (case z12 => k_is)
    (case z13 => k_is)
    (case z14 => k_is)
    (case z15 => k_is)
    (case z16 => k_is)
    (case z17 => k_is)
    (case aC0 => k_is)
    (case lC0 => k_is)

