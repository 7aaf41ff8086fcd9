import PyProof.Rows.All
import Wide.All
import OpenK.AllK
import Wide.FinOn
import HandS.ForMost
import HandS.TupAny
import HandS.TupMul
import HandS.IsInst
import HandS.Deep
import HandS.TupSets
import HandS.Rev
import HandS.DictComp
import HandS.Conv
import HandS.WideBits
import HandS.ListEq
import KE.KEqDict
import KE.DataCmp
import KE.KDictPairs
import HandS.TupLen
import KE.KDictKeyed
import KE.KeyNested
import KE.SortData
import PyProof.Rows.StrTemp
import KE.KDictWalk
import PyProof.Draws
import PyProof.TupleOfSeq
import HandS.Small
import PySem.Challenge.RW_deltastead_k28_whole_joins_kept_up
set_option Elab.async false
set_option linter.all false
set_option maxRecDepth 100000
set_option maxHeartbeats 4000000
/-! DL0: values without a heap (PV), a store of what may still change (Sto), and what a piece of a text computes over them. -/
namespace DL
open PySem L2

/-- keys that are ints or strings -/
abbrev KK := Sum Int Str
instance KK.dm (k : KK) (ks : List KK) : Decidable (k ∈ ks) := decidable_of_iff (ks.any (fun a => decide (a = k)) = true) (by simp)
/-- a value: tuples and lists that nobody changes any more are told by their items; what may change stands in the store, at a place -/
inductive PV where
  | non | bl (b : Bool) | int (i : Int) | str (x : Str)
  | tup (xs : List PV) | lst (xs : List PV) | ro (xs : List PV)
  | dct (ks vs : List PV) | loc (l : Nat)
  | dki (ks : List KK) (vs : List PV)

/-- what stands at a place (no places within) -/
inductive Cell where
  | lst (xs : List PV) | dct (ks vs : List PV) (t : Nat)
  | dki (ks : List KK) (vs : List PV)

/-! ### places within a value -/
mutual
def PV.lb (n : Nat) : PV → Bool
  | .tup xs => lbs n xs
  | .lst xs => lbs n xs
  | .ro xs => lbs n xs
  | .dct ks vs => lbs n ks && lbs n vs
  | .dki _ vs => lbs n vs
  | .loc l => decide (l < n)
  | .non => true
  | .bl _ => true
  | .int _ => true
  | .str _ => true
def lbs (n : Nat) : List PV → Bool
  | [] => true
  | x :: r => x.lb n && lbs n r
end
mutual
theorem PV.lb_mono {n m : Nat} (q : n ≤ m) : ∀ {v : PV}, v.lb n = true → v.lb m = true
  | .tup xs, h => by rw [PV.lb] at h ⊢; exact lbs_mono q h
  | .lst xs, h => by rw [PV.lb] at h ⊢; exact lbs_mono q h
  | .ro xs, h => by rw [PV.lb] at h ⊢; exact lbs_mono q h
  | .dct ks vs, h => by
    rw [PV.lb, Bool.and_eq_true] at h ⊢
    exact ⟨lbs_mono q h.1, lbs_mono q h.2⟩
  | .dki ks vs, h => by rw [PV.lb] at h ⊢; exact lbs_mono q h
  | .loc l, h => by
    rw [PV.lb, decide_eq_true_eq] at h ⊢
    omega
  | .non, _ => by rw [PV.lb]
  | .bl _, _ => by rw [PV.lb]
  | .int _, _ => by rw [PV.lb]
  | .str _, _ => by rw [PV.lb]
theorem lbs_mono {n m : Nat} (q : n ≤ m) : ∀ {xs : List PV}, lbs n xs = true → lbs m xs = true
  | [], _ => by rw [lbs]
  | x :: r, h => by
    rw [lbs, Bool.and_eq_true] at h ⊢
    exact ⟨PV.lb_mono q h.1, lbs_mono q h.2⟩
end
theorem lbs_all {n : Nat} : ∀ {xs : List PV}, lbs n xs = xs.all (PV.lb n)
  | [] => by rw [lbs]; rfl
  | x :: r => by rw [lbs, List.all_cons, lbs_all]
theorem lbs_append {n : Nat} {xs ys : List PV} : lbs n (xs ++ ys) = (lbs n xs && lbs n ys) := by
  rw [lbs_all, lbs_all, lbs_all, List.all_append]
theorem lbs_map {α : Type} {n : Nat} {f : α → PV} (h : ∀ a, (f a).lb n = true) (l : List α) : lbs n (l.map f) = true := by
  rw [lbs_all, List.all_map, List.all_eq_true]
  intro x _
  exact h x
theorem lb_int (n : Nat) (i : Int) : (PV.int i).lb n = true := by rw [PV.lb]
theorem lb_bl (n : Nat) (i : Bool) : (PV.bl i).lb n = true := by rw [PV.lb]
theorem lb_non (n : Nat) : PV.non.lb n = true := by rw [PV.lb]
theorem lb_str (n : Nat) (i : Str) : (PV.str i).lb n = true := by rw [PV.lb]
theorem lb_tup (n : Nat) (xs : List PV) : (PV.tup xs).lb n = lbs n xs := by rw [PV.lb]
theorem lb_lst (n : Nat) (xs : List PV) : (PV.lst xs).lb n = lbs n xs := by rw [PV.lb]
theorem lb_ro (n : Nat) (xs : List PV) : (PV.ro xs).lb n = lbs n xs := by rw [PV.lb]
theorem lb_dki (n : Nat) (ks : List KK) (vs : List PV) : (PV.dki ks vs).lb n = lbs n vs := by rw [PV.lb]
theorem lb_dct (n : Nat) (ks vs : List PV) : (PV.dct ks vs).lb n = (lbs n ks && lbs n vs) := by rw [PV.lb]
theorem lb_loc (n l : Nat) : (PV.loc l).lb n = decide (l < n) := by rw [PV.lb]
theorem lbs_nil (n : Nat) : lbs n [] = true := by rw [lbs]
theorem lbs_cons (n : Nat) (x : PV) (r : List PV) : lbs n (x :: r) = (x.lb n && lbs n r) := by rw [lbs]

def Cell.val : Cell → PV
  | .lst xs => .lst xs
  | .dct ks vs _ => .dct ks vs
  | .dki ks vs => .dki ks vs
def Cell.lb (n : Nat) : Cell → Bool
  | .lst xs => lbs n xs
  | .dct ks vs _ => lbs n ks && lbs n vs
  | .dki _ vs => lbs n vs
theorem Cell.lb_mono {n m : Nat} (q : n ≤ m) {c : Cell} (h : c.lb n = true) : c.lb m = true := by
  cases c with
  | lst xs => exact lbs_mono q h
  | dct ks vs _ =>
    have h : (lbs n ks && lbs n vs) = true := h
    rw [Bool.and_eq_true] at h
    show (lbs m ks && lbs m vs) = true
    rw [lbs_mono q h.1, lbs_mono q h.2]; rfl
  | dki ks vs => exact lbs_mono q (show lbs n vs = true from h)
theorem Cell.lb_val {n : Nat} {c : Cell} : c.val.lb n = c.lb n := by
  cases c with
  | lst xs => show (PV.lst xs).lb n = lbs n xs; rw [PV.lb]
  | dct ks vs _ => show (PV.dct ks vs).lb n = (lbs n ks && lbs n vs); rw [PV.lb]
  | dki ks vs => show (PV.dki ks vs).lb n = lbs n vs; rw [PV.lb]

/-! ### the store -/
structure Sto where
  nxt : Nat
  cs : Nat → Option Cell
  wf : ∀ l, nxt ≤ l → cs l = none
  wc : ∀ l c, cs l = some c → c.lb nxt = true

theorem Sto.ext' {a b : Sto} (h1 : a.nxt = b.nxt) (h2 : ∀ l, a.cs l = b.cs l) : a = b := by
  cases a; cases b
  simp only at h1 h2
  subst h1
  rename_i n c w u c' w' u'
  have e : c = c' := funext h2
  subst e
  rfl
def keepC (n : Nat) (c : Cell) : Option Cell := if c.lb n then some c else none
theorem keepC_pos {n : Nat} {c : Cell} (h : c.lb n = true) : keepC n c = some c := if_pos h
theorem keepC_some {n : Nat} {c d : Cell} (h : keepC n c = some d) : c.lb n = true ∧ d = c := by
  unfold keepC at h
  split at h
  · rename_i q; cases h; exact ⟨q, rfl⟩
  · cases h

def Sto.set (st : Sto) (l : Nat) (c : Cell) : Sto where
  nxt := st.nxt
  cs := fun j => if j = l then (st.cs l).bind (fun _ => keepC st.nxt c) else st.cs j
  wf := fun j h => by
    by_cases e : j = l
    · subst e; rw [if_pos rfl, st.wf j h]; rfl
    · rw [if_neg e]; exact st.wf j h
  wc := fun j d h => by
    by_cases e : j = l
    · rw [if_pos e] at h
      cases q : st.cs l with
      | none => rw [q] at h; cases h
      | some c0 => rw [q] at h; obtain ⟨h1, rfl⟩ := keepC_some h; exact h1
    · rw [if_neg e] at h; exact st.wc j d h
def Sto.alloc (st : Sto) (c : Cell) : Sto where
  nxt := st.nxt + 1
  cs := fun j => if j = st.nxt then keepC st.nxt c else st.cs j
  wf := fun j h => by
    have e : j ≠ st.nxt := by omega
    rw [if_neg e]; exact st.wf j (by omega)
  wc := fun j d h => by
    by_cases e : j = st.nxt
    · rw [if_pos e] at h
      obtain ⟨h1, rfl⟩ := keepC_some h
      exact Cell.lb_mono (Nat.le_succ _) h1
    · rw [if_neg e] at h; exact Cell.lb_mono (Nat.le_succ _) (st.wc j d h)
def Sto.restr (b : Nat) (st : Sto) : Sto where
  nxt := b
  cs := fun j => if j < b then (st.cs j).bind (keepC b) else none
  wf := fun j h => if_neg (by omega)
  wc := fun j d h => by
    by_cases e : j < b
    · rw [if_pos e] at h
      cases q : st.cs j with
      | none => rw [q] at h; cases h
      | some c0 => rw [q] at h; obtain ⟨h1, rfl⟩ := keepC_some (show keepC b c0 = some d from h); exact h1
    · rw [if_neg e] at h; cases h
def Sto.kill (l : Nat) (st : Sto) : Sto where
  nxt := st.nxt
  cs := fun j => if j = l then none else st.cs j
  wf := fun j h => by
    by_cases e : j = l
    · rw [if_pos e]
    · rw [if_neg e]; exact st.wf j h
  wc := fun j d h => by
    by_cases e : j = l
    · rw [if_pos e] at h; cases h
    · rw [if_neg e] at h; exact st.wc j d h
theorem Sto.kill_get {st : Sto} {l : Nat} : (st.kill l).cs l = none := if_pos rfl
theorem Sto.kill_ne {st : Sto} {l j : Nat} (h : j ≠ l) : (st.kill l).cs j = st.cs j := if_neg h
theorem Sto.set_get {st : Sto} {l : Nat} {c c0 : Cell} (h : st.cs l = some c0) (hc : c.lb st.nxt = true) : (st.set l c).cs l = some c := by
  show (if l = l then (st.cs l).bind (fun _ => keepC st.nxt c) else st.cs l) = some c
  rw [if_pos rfl, h]
  exact keepC_pos hc
theorem Sto.set_ne {st : Sto} {l j : Nat} {c : Cell} (h : j ≠ l) : (st.set l c).cs j = st.cs j := if_neg h
theorem Sto.alloc_get {st : Sto} {c : Cell} (hc : c.lb st.nxt = true) : (st.alloc c).cs st.nxt = some c := by
  show (if st.nxt = st.nxt then keepC st.nxt c else st.cs st.nxt) = some c
  rw [if_pos rfl]
  exact keepC_pos hc
theorem Sto.alloc_ne {st : Sto} {c : Cell} {j : Nat} (h : j ≠ st.nxt) : (st.alloc c).cs j = st.cs j := if_neg h
theorem Sto.lt_of {st : Sto} {l : Nat} {c : Cell} (h : st.cs l = some c) : l < st.nxt := by
  apply Nat.lt_of_not_le
  intro q
  rw [st.wf l q] at h
  cases h
theorem Sto.restr_get {st : Sto} {b l : Nat} {c : Cell} (h : (st.restr b).cs l = some c) : st.cs l = some c ∧ l < b ∧ c.lb b = true := by
  have h : (if l < b then (st.cs l).bind (keepC b) else none) = some c := h
  split at h
  · rename_i q
    cases e : st.cs l with
    | none => rw [e] at h; cases h
    | some c0 =>
      rw [e] at h
      obtain ⟨h1, rfl⟩ := keepC_some (show keepC b c0 = some c from h)
      exact ⟨rfl, q, h1⟩
  · cases h
theorem Sto.restr_at {st : Sto} {b l : Nat} {c : Cell} (h : st.cs l = some c) (q : l < b) (hc : c.lb b = true) : (st.restr b).cs l = some c := by
  show (if l < b then (st.cs l).bind (keepC b) else none) = some c
  rw [if_pos q, h]
  exact keepC_pos hc
theorem Sto.restr_self (st : Sto) : st.restr st.nxt = st := Sto.ext' rfl fun l => by
  show (if l < st.nxt then (st.cs l).bind (keepC st.nxt) else none) = st.cs l
  by_cases h : l < st.nxt
  · rw [if_pos h]
    cases e : st.cs l with
    | none => rfl
    | some c => exact keepC_pos (st.wc l c e)
  · rw [if_neg h, st.wf l (by omega)]
theorem Sto.restr_alloc {st : Sto} {c : Cell} {b : Nat} (h : b ≤ st.nxt) : (st.alloc c).restr b = st.restr b := Sto.ext' rfl fun l => by
  show (if l < b then ((st.alloc c).cs l).bind (keepC b) else none) = if l < b then (st.cs l).bind (keepC b) else none
  by_cases q : l < b
  · rw [Sto.alloc_ne (by omega)]
  · rw [if_neg q, if_neg q]
theorem Sto.restr_set_ge {st : Sto} {c : Cell} {b l : Nat} (h : b ≤ l) : (st.set l c).restr b = st.restr b := Sto.ext' rfl fun j => by
  show (if j < b then ((st.set l c).cs j).bind (keepC b) else none) = if j < b then (st.cs j).bind (keepC b) else none
  by_cases q : j < b
  · rw [Sto.set_ne (by omega)]
  · rw [if_neg q, if_neg q]
theorem Sto.restr_kill_ge {st : Sto} {b l : Nat} (h : b ≤ l) : (st.kill l).restr b = st.restr b := Sto.ext' rfl fun j => by
  show (if j < b then ((st.kill l).cs j).bind (keepC b) else none) = if j < b then (st.cs j).bind (keepC b) else none
  by_cases q : j < b
  · rw [Sto.kill_ne (by omega)]
  · rw [if_neg q, if_neg q]
theorem Sto.restr_set_lt {st : Sto} {c c0 : Cell} {b l : Nat} (h : l < b) (hb : b ≤ st.nxt) (h0 : st.cs l = some c0) (h0b : c0.lb b = true) (hc : c.lb b = true) : (st.set l c).restr b = (st.restr b).set l c := Sto.ext' rfl fun j => by
  by_cases e : j = l
  · subst e
    rw [Sto.restr_at (Sto.set_get h0 (Cell.lb_mono hb hc)) h hc, Sto.set_get (Sto.restr_at h0 h h0b) hc]
  · rw [Sto.set_ne e]
    show (if j < b then ((st.set l c).cs j).bind (keepC b) else none) = if j < b then (st.cs j).bind (keepC b) else none
    rw [Sto.set_ne e]
theorem Sto.set_set {st : Sto} {l : Nat} {c c' : Cell} (hc : c.lb st.nxt = true) : (st.set l c).set l c' = st.set l c' := Sto.ext' rfl fun j => by
  by_cases e : j = l
  · subst e
    cases q : st.cs j with
    | none =>
      have h : ∀ d : Cell, (st.set j d).cs j = none := fun d => by
        show (if j = j then (st.cs j).bind (fun _ => keepC st.nxt d) else st.cs j) = none
        rw [if_pos rfl, q]; rfl
      rw [h]
      show (if j = j then ((st.set j c).cs j).bind (fun _ => keepC st.nxt c') else (st.set j c).cs j) = none
      rw [if_pos rfl, h]; rfl
    | some c0 =>
      show (if j = j then ((st.set j c).cs j).bind (fun _ => keepC st.nxt c') else (st.set j c).cs j) = (if j = j then (st.cs j).bind (fun _ => keepC st.nxt c') else st.cs j)
      rw [if_pos rfl, if_pos rfl, Sto.set_get q hc, q]; rfl
  · rw [Sto.set_ne e, Sto.set_ne e, Sto.set_ne e]
theorem Sto.set_comm {st : Sto} {l k : Nat} {c d : Cell} (h : l ≠ k) : (st.set l c).set k d = (st.set k d).set l c := Sto.ext' rfl fun j => by
  have at' : ∀ (s : Sto) (x : Nat) (y : Cell), (s.set x y).cs x = (s.cs x).bind (fun _ => keepC s.nxt y) := fun s x y => if_pos rfl
  by_cases e : j = k
  · subst e
    rw [at', Sto.set_ne (Ne.symm h), Sto.set_ne (Ne.symm h), at']; rfl
  · rw [Sto.set_ne e]
    by_cases e2 : j = l
    · subst e2
      rw [at', at', Sto.set_ne h]; rfl
    · rw [Sto.set_ne e2, Sto.set_ne e2, Sto.set_ne e]
theorem Sto.set_self {st : Sto} {l : Nat} {c : Cell} (h : st.cs l = some c) : st.set l c = st := Sto.ext' rfl fun j => by
  by_cases e : j = l
  · subst e; rw [Sto.set_get h (st.wc j c h), h]
  · rw [Sto.set_ne e]
theorem Sto.set_nxt {st : Sto} {l : Nat} {c : Cell} : (st.set l c).nxt = st.nxt := rfl
theorem Sto.alloc_nxt {st : Sto} {c : Cell} : (st.alloc c).nxt = st.nxt + 1 := rfl
theorem Sto.restr_nxt {st : Sto} {b : Nat} : (st.restr b).nxt = b := rfl
theorem Sto.alloc_set {st : Sto} {c d : Cell} (hc : c.lb st.nxt = true) (hd : d.lb st.nxt = true) : (st.alloc c).set st.nxt d = st.alloc d := Sto.ext' rfl fun j => by
  by_cases e : j = st.nxt
  · subst e
    rw [Sto.set_get (Sto.alloc_get hc) (Cell.lb_mono (Nat.le_succ _) hd), Sto.alloc_get hd]
  · rw [Sto.set_ne e, Sto.alloc_ne e, Sto.alloc_ne e]

/-! ### what stands at the places is told -/
mutual
def PV.sub (f : Nat → Option PV) : PV → Option PV
  | .tup xs => (subs f xs).map .tup
  | .lst xs => (subs f xs).map .lst
  | .ro xs => (subs f xs).map .ro
  | .dct ks vs => match subs f ks, subs f vs with
    | some ks', some vs' => some (.dct ks' vs')
    | _, _ => none
  | .dki ks vs => (subs f vs).map (.dki ks)
  | .loc l => f l
  | .non => some .non
  | .bl x => some (.bl x)
  | .int x => some (.int x)
  | .str x => some (.str x)
def subs (f : Nat → Option PV) : List PV → Option (List PV)
  | [] => some []
  | x :: r => match x.sub f, subs f r with
    | some x', some r' => some (x' :: r')
    | _, _ => none
end
/-- a place from b on is told by what stands there, to a depth -/
def rsv (b : Nat) (cs : Nat → Option Cell) : Nat → Nat → Option PV
  | 0, l => if l < b then some (.loc l) else none
  | n + 1, l => if l < b then some (.loc l) else match cs l with
    | some c => c.val.sub (rsv b cs n)
    | none => none
theorem rsv_lt {b : Nat} {cs : Nat → Option Cell} {n l : Nat} (h : l < b) : rsv b cs n l = some (.loc l) := by
  cases n <;> exact if_pos h
theorem rsv_ge {b : Nat} {cs : Nat → Option Cell} {n l : Nat} {c : Cell} (h : b ≤ l) (hc : cs l = some c) : rsv b cs (n + 1) l = c.val.sub (rsv b cs n) := by
  show (if l < b then some (.loc l) else match cs l with | some c => c.val.sub (rsv b cs n) | none => none) = _
  rw [if_neg (by omega), hc]
mutual
theorem PV.sub_lb {b : Nat} {f : Nat → Option PV} (hf : ∀ l, l < b → f l = some (.loc l)) : ∀ {v : PV}, v.lb b = true → v.sub f = some v
  | .tup xs, h => by rw [PV.sub, subs_lb hf (by rw [PV.lb] at h; exact h)]; rfl
  | .lst xs, h => by rw [PV.sub, subs_lb hf (by rw [PV.lb] at h; exact h)]; rfl
  | .ro xs, h => by rw [PV.sub, subs_lb hf (by rw [PV.lb] at h; exact h)]; rfl
  | .dct ks vs, h => by
    rw [PV.lb, Bool.and_eq_true] at h
    rw [PV.sub, subs_lb hf h.1, subs_lb hf h.2]
  | .dki ks vs, h => by rw [PV.sub, subs_lb hf (by rw [PV.lb] at h; exact h)]; rfl
  | .loc l, h => by rw [PV.lb, decide_eq_true_eq] at h; rw [PV.sub, hf l h]
  | .non, _ => by rw [PV.sub]
  | .bl _, _ => by rw [PV.sub]
  | .int _, _ => by rw [PV.sub]
  | .str _, _ => by rw [PV.sub]
theorem subs_lb {b : Nat} {f : Nat → Option PV} (hf : ∀ l, l < b → f l = some (.loc l)) : ∀ {xs : List PV}, lbs b xs = true → subs f xs = some xs
  | [], _ => by rw [subs]
  | x :: r, h => by
    rw [lbs, Bool.and_eq_true] at h
    rw [subs, PV.sub_lb hf h.1, subs_lb hf h.2]
end
def PV.res (b : Nat) (cs : Nat → Option Cell) (v : PV) : Option PV := v.sub (rsv b cs 8)
theorem PV.res_lb {b : Nat} {cs : Nat → Option Cell} {v : PV} (h : v.lb b = true) : v.res b cs = some v := PV.sub_lb (fun _ q => rsv_lt q) h
theorem PV.res_loc {b l : Nat} {cs : Nat → Option Cell} {c : Cell} (h : b ≤ l) (hc : cs l = some c) (hb : c.lb b = true) : (PV.loc l).res b cs = some c.val := by
  unfold PV.res
  rw [PV.sub, rsv_ge h hc]
  exact PV.sub_lb (fun _ q => rsv_lt q) (by rw [Cell.lb_val]; exact hb)

/-! ### what pieces compute -/
abbrev Env := List (Option PV)
abbrev M (α : Type) := Sto → Option (α × Sto)
abbrev DE := Env → M PV
abbrev DT := Env → M Bool
abbrev DA := Env → M (List PV)
abbrev FSem := List PV → M PV
inductive Fl where
  | nx (e : Env) | rt (v : PV) | bk (e : Env) | ct (e : Env)
abbrev DS := Env → M Fl
/-- what a for walks: its items, and the place that must stand as it is -/
structure Its where
  items : List PV
  src : Option (Nat × Cell)
abbrev DI := Env → M Its

def mb {α β : Type} (m : Option (α × Sto)) (f : α → Sto → Option (β × Sto)) : Option (β × Sto) := match m with
  | some (a, st) => f a st
  | none => none
theorem mb_some {α β : Type} {a : α} {st : Sto} {f : α → Sto → Option (β × Sto)} : mb (some (a, st)) f = f a st := rfl
theorem mb_eq {α β : Type} {m : Option (α × Sto)} {f : α → Sto → Option (β × Sto)} {b : β} {st : Sto} (h : mb m f = some (b, st)) : ∃ a st1, m = some (a, st1) ∧ f a st1 = some (b, st) := by
  cases m with
  | none => cases h
  | some p => exact ⟨p.1, p.2, rfl, h⟩

def dVar (i : Nat) : DE := fun env st => match env[i]? with
  | some (some v) => some (v, st)
  | _ => none
def dCst (v : PV) : DE := fun _ st => some (v, st)
/-- a list or a dict that nobody changes any more -/
def frzL (v : PV) (st : Sto) : Option (PV × Sto) := match v with
  | .loc l => match st.cs l with
    | some c => some (c.val, st.kill l)
    | none => none
  | _ => none
def dFrz (i : Nat) : DE := fun env st => mb (dVar i env st) frzL
def dBin (f : PV → PV → M PV) (a b : DE) : DE := fun env st => mb (a env st) fun x st1 => mb (b env st1) fun y st2 => f x y st2
def dUn (f : PV → M PV) (a : DE) : DE := fun env st => mb (a env st) fun x st1 => f x st1
def aNil : DA := fun _ st => some ([], st)
def aCons (a : DE) (r : DA) : DA := fun env st => mb (a env st) fun x st1 => mb (r env st1) fun xs st2 => some (x :: xs, st2)
/-- a call of what is known by values -/
def dApp (f : FSem) (a : DA) : DE := fun env st => mb (a env st) fun xs st1 => f xs st1

def seqOf (st : Sto) : PV → Option (List PV)
  | .tup xs => some xs
  | .lst xs => some xs
  | .ro xs => some xs
  | .loc l => match st.cs l with
    | some (.lst xs) => some xs
    | _ => none
  | _ => none
/-- lists alone -/
def lstOf (st : Sto) : PV → Option (List PV)
  | .lst xs => some xs
  | .loc l => match st.cs l with
    | some (.lst xs) => some xs
    | _ => none
  | _ => none
/-! dicts: keys that are tuples of ints and None, or ints and texts -/
mutual
def NK : PV → Option NestedKey
  | .int i => some (.num i)
  | .non => some .none
  | .str x => some (.text x)
  | .tup xs => (NKs xs).map .tup
  | .bl _ => none
  | .lst _ => none
  | .ro _ => none
  | .dct _ _ => none
  | .dki _ _ => none
  | .loc _ => none
def NKs : List PV → Option (List NestedKey)
  | [] => some []
  | x :: r => match NK x, NKs r with
    | some k, some ks => some (k :: ks)
    | _, _ => none
end
mutual
def noText : NestedKey → Bool
  | .none => true
  | .num _ => true
  | .text _ => false
  | .tup ks => noTexts ks
def noTexts : List NestedKey → Bool
  | [] => true
  | k :: r => noText k && noTexts r
end
/-- a tuple that may be a key -/
def isTK : PV → Bool
  | .tup xs => match NK (.tup xs) with
    | some k => noText k && decide (k.depth ≤ 8)
    | none => false
  | _ => false
/-- an int or a text -/
def isFK : PV → Bool
  | .int _ => true
  | .str _ => true
  | _ => false
def keyEq (a b : PV) : Bool := match NK a, NK b with
  | some x, some y => decide (x = y)
  | _, _ => false
def dlook : List PV → List PV → PV → Option PV
  | k' :: ks, v :: vs, k => if keyEq k' k then some v else dlook ks vs k
  | _, _, _ => none
def dput : List PV → List PV → PV → PV → List PV × List PV
  | k' :: ks, v' :: vs, k, v => if keyEq k' k then (k' :: ks, v :: vs) else (k' :: (dput ks vs k v).1, v' :: (dput ks vs k v).2)
  | _, _, k, v => ([k], [v])
def goodK (ks : List PV) (k : PV) : Bool := ks.all isTK && isTK k
def dctOf (st : Sto) : PV → Option (List PV × List PV)
  | .dct ks vs => some (ks, vs)
  | .loc l => match st.cs l with
    | some (.dct ks vs _) => some (ks, vs)
    | _ => none
  | _ => none
/-! dicts whose keys are ints -/
def dkiOf (st : Sto) : PV → Option (List KK × List PV)
  | .dki ks vs => some (ks, vs)
  | .loc l => match st.cs l with
    | some (.dki ks vs) => some (ks, vs)
    | _ => none
  | _ => none
def keyP : PV → Option KK
  | .int i => some (.inl i)
  | .str x => some (.inr x)
  | _ => none
def ilook : List KK → List PV → KK → Option PV
  | k' :: ks, v :: vs, k => if k' = k then some v else ilook ks vs k
  | _, _, _ => none
def iput (ks : List KK) (vs : List PV) (k : KK) (v : PV) : List KK × List PV :=
  if k ∈ ks then (ks, List.zipWith (fun a b => if a = k then v else b) ks vs) else (ks ++ [k], vs ++ [v])
/-- a new dict of ints -/
def mkI : M PV := fun st => some (.loc st.nxt, st.alloc (.dki [] []))
def dDctI : DE := fun _ st => mkI st
/-- a new dict -/
def mkD (m : Bool) (ks vs : List PV) : M PV := fun st =>
  if m then (if lbs st.nxt ks && lbs st.nxt vs then some (.loc st.nxt, st.alloc (.dct ks vs 0)) else none)
  else some (.dct ks vs, st)
def dDct0 (m : Bool) : DE := fun _ st => mkD m [] [] st
/-- a new list: m if it may change later -/
def mkL (m : Bool) (xs : List PV) : M PV := fun st =>
  if xs.length ≤ sizeLine then
    if m then (if lbs st.nxt xs then some (.loc st.nxt, st.alloc (.lst xs)) else none)
    else some (.lst xs, st)
  else none
def mkT (xs : List PV) : M PV := fun st => if xs.length ≤ sizeLine then some (.tup xs, st) else none
def dTup (a : DA) : DE := dApp mkT a
def dLst (m : Bool) (a : DA) : DE := dApp (mkL m) a

/-! operators -/
def opAdd (m : Bool) : PV → PV → M PV
  | .int a, .int b, st => some (.int (a + b), st)
  | .str a, .str b, st => if a.length + b.length ≤ sizeLine then some (.str (a ++ b), st) else none
  | .tup a, .tup b, st => if a.length + b.length ≤ sizeLine then some (.tup (a ++ b), st) else none
  | x, y, st => match lstOf st x, lstOf st y with
    | some a, some b => mkL m (a ++ b) st
    | _, _ => none
def opSub : PV → PV → M PV
  | .int a, .int b, st => some (.int (a - b), st)
  | _, _, _ => none
/-! bounds, opened by their lemmas alone -/
@[irreducible] def okMul (a b : Int) : Bool := decide ((-(2 ^ 64) < a ∧ a < 2 ^ 64) ∨ (-(2 ^ 64) < b ∧ b < 2 ^ 64))
theorem okMul_iff {a b : Int} : okMul a b = true ↔ ((-(2 ^ 64) < a ∧ a < 2 ^ 64) ∨ (-(2 ^ 64) < b ∧ b < 2 ^ 64)) := by unfold okMul; exact decide_eq_true_iff
/-- both of at most a thousand bits -/
@[irreducible] def okMulX (a b : Int) : Bool := decide (a.natAbs < 2 ^ 1000 ∧ b.natAbs < 2 ^ 1000)
theorem okMulX_iff {a b : Int} : okMulX a b = true ↔ (a.natAbs < 2 ^ 1000 ∧ b.natAbs < 2 ^ 1000) := by unfold okMulX; exact decide_eq_true_iff
@[irreducible] def okMod (b : Int) : Bool := decide (0 < b)
theorem okMod_iff {b : Int} : okMod b = true ↔ 0 < b := by unfold okMod; exact decide_eq_true_iff
@[irreducible] def okDiv (b : Int) : Bool := decide (0 < b ∧ b < 1073741824)
theorem okDiv_iff {b : Int} : okDiv b = true ↔ (0 < b ∧ b < 1073741824) := by unfold okDiv; exact decide_eq_true_iff
@[irreducible] def okPow (a b : Int) : Bool := decide (0 ≤ b ∧ b ≤ 1000000 ∧ a.natAbs < 2 ^ 64)
theorem okPow_iff {a b : Int} : okPow a b = true ↔ (0 ≤ b ∧ b ≤ 1000000 ∧ a.natAbs < 2 ^ 64) := by unfold okPow; exact decide_eq_true_iff
@[irreducible] def okRng (a : Int) : Bool := decide (-(2 ^ 62) ≤ a ∧ a < 2 ^ 62)
theorem okRng_iff {a : Int} : okRng a = true ↔ (-(2 ^ 62) ≤ a ∧ a < 2 ^ 62) := by unfold okRng; exact decide_eq_true_iff
@[irreducible] def okLen (n : Nat) : Bool := decide (n ≤ sizeLine)
theorem okLen_iff {n : Nat} : okLen n = true ↔ n ≤ sizeLine := by unfold okLen; exact decide_eq_true_iff
@[irreducible] def okRep (n : Nat) (k : Int) : Bool := decide (0 < n ∧ n ≤ 1000 ∧ 0 ≤ k ∧ k ≤ 1000)
theorem okRep_iff {n : Nat} {k : Int} : okRep n k = true ↔ (0 < n ∧ n ≤ 1000 ∧ 0 ≤ k ∧ k ≤ 1000) := by unfold okRep; exact decide_eq_true_iff
def opMul : PV → PV → M PV
  | .int a, .int b, st => if okMul a b then some (.int (a * b), st) else if okMulX a b then some (.int (a * b), st) else none
  | .tup xs, .int k, st => if okRep xs.length k then some (.tup (List.replicate k.toNat xs).flatten, st) else none
  | _, _, _ => none
def opMod : PV → PV → M PV
  | .int a, .int b, st => if okMod b then some (.int (a % b), st) else none
  | _, _, _ => none
def opDiv : PV → PV → M PV
  | .int a, .int b, st => if okDiv b then some (.int (a / b), st) else none
  | _, _, _ => none
def opPow : PV → PV → M PV
  | .int a, .int b, st => if okPow a b then some (.int (a ^ b.toNat), st) else none
  | _, _, _ => none
def opNeg : PV → M PV
  | .int a, st => some (.int (-a), st)
  | _, _ => none
def opNot : PV → M PV
  | .bl a, st => some (.bl (!a), st)
  | _, _ => none

/-! comparisons -/
def cmpI (p : Int → Int → Bool) : PV → PV → M PV
  | .int a, .int b, st => some (.bl (p a b), st)
  | _, _, _ => none
mutual
/-- as the library's data -/
def PV.toD (cs : Nat → Option Cell) : PV → Option PyData
  | .non => some .none
  | .bl b => some (.bool b)
  | .int i => some (.int i)
  | .str x => some (.str x)
  | .tup xs => (toDs cs xs).map .tuple
  | .lst xs => (toDs cs xs).map .list
  | .ro xs => (toDs cs xs).map .list
  | .dct _ _ => none
  | .dki _ _ => none
  | .loc _ => none
def toDs (cs : Nat → Option Cell) : List PV → Option (List PyData)
  | [] => some []
  | x :: r => match x.toD cs, toDs cs r with
    | some d, some ds => some (d :: ds)
    | _, _ => none
end
/-- a place is told by its items -/
def derf (st : Sto) : PV → PV
  | .loc l => match st.cs l with
    | some c => c.val
    | none => .loc l
  | v => v
def cmpEq (neg : Bool) : PV → PV → M PV := fun x y st =>
  match (derf st x).toD st.cs, (derf st y).toD st.cs with
  | some d, some e => if SeqAt.shaped d && SeqAt.shaped e then some (.bl (PyData.eqv d e != neg), st) else none
  | _, _ => none
def flatP : PV → Bool
  | .non => true
  | .bl _ => true
  | .int _ => true
  | .str _ => true
  | _ => false
def eqP : PV → PV → Bool
  | .non, .non => true
  | .bl a, .bl b => a == b
  | .bl a, .int b => (if a then 1 else 0) == b
  | .int a, .bl b => a == (if b then 1 else 0)
  | .int a, .int b => a == b
  | .str a, .str b => a == b
  | _, _ => false
def cmpInS (neg : Bool) : PV → PV → M PV := fun x y st =>
  match seqOf st y with
  | some ys => if flatP x && ys.all flatP then some (.bl (ys.any (fun z => eqP z x) != neg), st) else
    match lstOf st y with
    | some ys => match (derf st x).toD st.cs, toDs st.cs ys with
      | some d, some ds => if SeqAt.shaped d && SeqAt.shaped (.list ds) then some (.bl ((ds.any fun z => PyData.eqv z d) != neg), st) else none
      | _, _ => none
    | none => none
  | none => none
def cmpIn (neg : Bool) : PV → PV → M PV := fun x y st => match dkiOf st y with
  | some (ks, vs) => match keyP x with
    | some i => some (.bl ((ilook ks vs i).isSome != neg), st)
    | none => none
  | none => match dctOf st y with
    | some (ks, vs) => if goodK ks x then some (.bl ((dlook ks vs x).isSome != neg), st) else none
    | none => cmpInS neg x y st
def isNonP : PV → Bool
  | .non => true
  | _ => false
def cmpIsN (neg : Bool) : PV → M PV := fun x st => some (.bl (isNonP x != neg), st)

/-! subscripts -/
def opIx : PV → PV → M PV := fun x y st => match dkiOf st x with
  | some (ks, vs) => match keyP y with
    | some i => (ilook ks vs i).map fun v => (v, st)
    | none => none
  | none => match dctOf st x with
    | some (ks, vs) => if goodK ks y then (dlook ks vs y).map fun v => (v, st) else none
    | none => match y with
      | .int i => match seqOf st x with
        | some xs => (atI xs i).map fun v => (v, st)
        | none => none
      | _ => none
def intO : PV → Option (Option Int)
  | .int i => some (some i)
  | _ => none
def cutP (xs : List PV) (lo hi : Option Int) : List PV := (xs.drop (HT.sIx xs.length 0 lo)).take (HT.sIx xs.length xs.length hi - HT.sIx xs.length 0 lo)
abbrev DO := Env → M (Option Int)
def oNone : DO := fun _ st => some (none, st)
def oSome (a : DE) : DO := fun env st => mb (a env st) fun x st1 => match x with
  | .int i => some (some i, st1)
  | _ => none
def dSl (m : Bool) (a : DE) (lo hi : DO) : DE := fun env st => mb (a env st) fun x st1 => mb (lo env st1) fun l st2 => mb (hi env st2) fun h st3 => match x with
  | .tup xs => some (.tup (cutP xs l h), st3)
  | x => match lstOf st3 x with
    | some xs => mkL m (cutP xs l h) st3
    | none => none

/-! calls of built-ins -/
def bLen : FSem
  | [.str x], st => if x.length ≤ sizeLine then some (.int x.length, st) else none
  | [x], st => match seqOf st x with
    | some xs => some (.int xs.length, st)
    | none => match dctOf st x with
      | some (ks, _) => some (.int ks.length, st)
      | none => none
  | _, _ => none
def bAbs : FSem
  | [.int i], st => some (.int (if i < 0 then -i else i), st)
  | _, _ => none
def bInt : FSem
  | [.int i], st => some (.int i, st)
  | [.bl k], st => some (.int (if k then 1 else 0), st)
  | _, _ => none
def maxL : List Int → Int
  | [] => 0
  | [x] => x
  | x :: r => max x (maxL r)
def minL : List Int → Int
  | [] => 0
  | [x] => x
  | x :: r => min x (minL r)
def intsOf : List PV → Option (List Int)
  | [] => some []
  | .int i :: r => (intsOf r).map (i :: ·)
  | _ => none
def bMax : FSem
  | [.int i, .int j], st => some (.int (if j > i then j else i), st)
  | [.int i, .int j, .int k], st => some (.int (if j > i then (if k > j then k else j) else (if k > i then k else i)), st)
  | [x], st => match lstOf st x with
    | some xs => match intsOf xs with
      | some (i :: r) => some (.int (maxL (i :: r)), st)
      | _ => none
    | none => none
  | _, _ => none
def bMin : FSem
  | [.int i, .int j], st => some (.int (if j < i then j else i), st)
  | [.int i, .int j, .int k], st => some (.int (if j < i then (if k < j then k else j) else (if k < i then k else i)), st)
  | [x], st => match lstOf st x with
    | some xs => match intsOf xs with
      | some (i :: r) => some (.int (minL (i :: r)), st)
      | _ => none
    | none => none
  | _, _ => none
def bTuple : FSem
  | [.tup xs], st => some (.tup xs, st)
  | [x], st => match lstOf st x with
    | some xs => mkT xs st
    | none => none
  | _, _ => none
def bList (m : Bool) : FSem
  | [x], st => match seqOf st x with
    | some xs => mkL m xs st
    | none => none
  | _, _ => none
def sortI (l : List Int) : List Int := l.mergeSort (fun a b => decide (a ≤ b))
/-- x < y: ints, or data that are alike -/
def cmpLt : PV → PV → M PV
  | .int a, .int b, st => some (.bl (decide (a < b)), st)
  | .tup xs, .tup ys, st => match (PV.tup xs).toD st.cs, (PV.tup ys).toD st.cs with
    | some d, some e => if PySem.W.alike d e && decide (min d.depth e.depth ≤ 60) then some (.bl (PySem.W.dataLt d e), st) else none
    | _, _ => none
  | _, _, _ => none
/-- tuples of ints: their order, without the doubles -/
def lexLe (a b : List Int) : Bool := !HT.lexLt b a
def sortT (ks : List (List Int)) : List (List Int) := ks.mergeSort lexLe
def uniqT : List (List Int) → List (List Int)
  | [] => []
  | k :: r => if k ∈ r then uniqT r else k :: uniqT r
def tupsOf : List PV → Option (List (List Int))
  | [] => some []
  | .tup xs :: r => match intsOf xs, tupsOf r with
    | some ns, some ks => some (ns :: ks)
    | _, _ => none
  | _ => none
def tupP (k : List Int) : PV := .tup (k.map .int)
@[irreducible] def bTup : Int := 1000000000000
open Classical in
@[irreducible] noncomputable def okTs (ks : List (List Int)) : Bool := decide (ks.length < 64 ∧ ∃ d, 1 ≤ d ∧ ∀ k ∈ ks, k.length = d ∧ TS.Bd bTup k)
open Classical in
theorem okTs_iff {ks : List (List Int)} : okTs ks = true ↔ (ks.length < 64 ∧ ∃ d, 1 ≤ d ∧ ∀ k ∈ ks, k.length = d ∧ TS.Bd bTup k) := by unfold okTs; exact decide_eq_true_iff
/-- the order of data that are alike -/
def leP (a b : PV) : Bool := match a.toD (fun _ => none), b.toD (fun _ => none) with
  | some x, some y => !PySem.W.dataLt y x
  | _, _ => true
open Classical in
@[irreducible] noncomputable def okSort (ds : List PyData) : Bool := decide (PySem.W.AllAlike ds ∧ PySem.W.Sortable ds ∧ ds.length ≤ sizeLine ∧ ∀ d ∈ ds, d.depth ≤ 30)
open Classical in
theorem okSort_iff {ds : List PyData} : okSort ds = true ↔ (PySem.W.AllAlike ds ∧ PySem.W.Sortable ds ∧ ds.length ≤ sizeLine ∧ ∀ d ∈ ds, d.depth ≤ 30) := by unfold okSort; exact decide_eq_true_iff
/-- what list(x), sorted(x) read -/
def colOf (st : Sto) (x : PV) : Option (List PV) := match lstOf st x with
  | some xs => some xs
  | none => match dctOf st x with
    | some (ks, _) => some ks
    | none => none
noncomputable def sortGo (m : Bool) (xs : List PV) : M PV := fun st => match toDs (fun _ => none) xs with
  | some ds => if okSort ds then mkL m (xs.mergeSort leP) st else none
  | none => none
noncomputable def bSorted (m : Bool) : FSem
  | [x], st => match lstOf st x with
    | some xs => sortGo m xs st
    | none => match dctOf st x with
      | some (ks, _) => sortGo m ks st
      | none => match x with
        | .tup xs => sortGo m xs st
        | _ => none
  | _, _ => none
def bSum : FSem
  | [x], st => match lstOf st x with
    | some xs => match intsOf xs with
      | some ns => some (.int ns.sum, st)
      | none => none
    | none => none
  | _, _ => none
/-- sorted(set(x)) -/
noncomputable def bSortedSet (m : Bool) : FSem
  | [x], st => match lstOf st x with
    | some xs => match tupsOf xs with
      | some ks => if okTs ks then mkL m ((sortT (uniqT ks)).map tupP) st else none
      | none => none
    | none => none
  | _, _ => none
inductive BTy where
  | int | bool | str | list | tuple | dict
  deriving DecidableEq
def BTy.name : BTy → Str
  | .int => "int" | .bool => "bool" | .str => "str" | .list => "list" | .tuple => "tuple" | .dict => "dict"
def BTy.nameS : BTy → String
  | .int => "int" | .bool => "bool" | .str => "str" | .list => "list" | .tuple => "tuple" | .dict => "dict"
def isTy (t : BTy) (st : Sto) : PV → Option Bool
  | .non => some false
  | .bl _ => some (t == .bool || t == .int)
  | .int _ => some (t == .int)
  | .str _ => some (t == .str)
  | .tup _ => some (t == .tuple)
  | .lst _ => some (t == .list)
  | .ro _ => none
  | .dct _ _ => some (t == .dict)
  | .dki _ _ => none
  | .loc l => match st.cs l with
    | some (.lst _) => some (t == .list)
    | some (.dct _ _ _) => some (t == .dict)
    | _ => none
def bIsi (t : BTy) : PV → M PV := fun x st => (isTy t st x).map fun b => (.bl b, st)

/-! methods of lists -/
def asL (x : PV) (st : Sto) : Option (Nat × Sto) := match x with
  | .loc l => match st.cs l with
    | some (.lst _) => some (l, st)
    | _ => none
  | _ => none
theorem asL_eq {x : PV} {st st' : Sto} {l : Nat} (h : asL x st = some (l, st')) : x = .loc l ∧ st = st' ∧ ∃ xs, st.cs l = some (.lst xs) := by
  unfold asL at h
  split at h
  · split at h
    · rename_i hl
      cases h
      exact ⟨rfl, rfl, _, hl⟩
    · cases h
  · cases h
def dMetL (f : Nat → FSem) (o : DE) (a : DA) : DE := fun env st => mb (o env st) fun x st1 => mb (asL x st1) fun l st2 => mb (a env st2) fun xs st3 => f l xs st3
def mAppend (l : Nat) : FSem
  | [y], st => match st.cs l with
    | some (.lst xs) => if xs.length < sizeLine && y.lb st.nxt then some (.non, st.set l (.lst (xs ++ [y]))) else none
    | _ => none
  | _, _ => none
def mPop (l : Nat) : FSem
  | [], st => match st.cs l with
    | some (.lst xs) => match xs[xs.length - 1]? with
      | some y => some (y, st.set l (.lst xs.dropLast))
      | none => none
    | _ => none
  | _, _ => none
def mPopAt (l : Nat) : FSem
  | [.int i], st => match st.cs l with
    | some (.lst xs) => match seqIndex? i xs.length with
      | some k => match xs[k]? with
        | some y => if okRng i then some (y, st.set l (.lst (xs.eraseIdx k))) else none
        | none => none
      | none => none
    | _ => none
  | _, _ => none
def mInsert (l : Nat) : FSem
  | [.int i, y], st => match st.cs l with
    | some (.lst xs) => if xs.length < sizeLine && y.lb st.nxt && okRng i && decide (0 ≤ i) then some (.non, st.set l (.lst (xs.take i.toNat ++ [y] ++ xs.drop i.toNat))) else none
    | _ => none
  | _, _ => none
def mExtend (l : Nat) : FSem
  | [y], st => match st.cs l with
    | some (.lst xs) => match lstOf st y with
      | some zs => if decide (xs.length + zs.length ≤ sizeLine) && lbs st.nxt zs then some (.non, st.set l (.lst (xs ++ zs))) else none
      | none => none
    | _ => none
  | _, _ => none
def mReverse (l : Nat) : FSem
  | [], st => match st.cs l with
    | some (.lst xs) => some (.non, st.set l (.lst xs.reverse))
    | _ => none
  | _, _ => none

/-- d.get(k, v) -/
@[irreducible] def dGet2 (o k v : DE) : DE := fun env st => mb (o env st) fun x st1 => match dctOf st1 x with
  | none => none
  | some _ => mb (k env st1) fun y st2 => mb (v env st2) fun z st3 => match dctOf st3 x with
    | some (ks, vs) => if goodK ks y then some ((dlook ks vs y).getD z, st3) else none
    | none => none
/-- d.get(k), d a dict of ints -/
@[irreducible] def dGet1 (o k : DE) : DE := fun env st => mb (o env st) fun x st1 => match dkiOf st1 x with
  | none => none
  | some _ => mb (k env st1) fun y st2 => match keyP y with
    | some i => match dkiOf st2 x with
      | some (ks, vs) => some ((ilook ks vs i).getD .non, st2)
      | none => none
    | none => none
/-- any(xs) -/
def blsOf : List PV → Option (List Bool)
  | [] => some []
  | .bl b :: r => (blsOf r).map (b :: ·)
  | _ => none
def bAny : FSem
  | [x], st => match lstOf st x with
    | some xs => match blsOf xs with
      | some bs => some (.bl (bs.any id), st)
      | none => none
    | none => none
  | _, _ => none
/-- x[::-1], x a tuple -/
def dRvT (a : DE) : DE := fun env st => mb (a env st) fun x st1 => match x with
  | .tup xs => some (.tup xs.reverse, st1)
  | _ => none
/-! calls of the text's own defs -/
/-- behind a def: what it made and does not hand back is dropped -/
def fin (b : Nat) (v : PV) (st : Sto) : Option (PV × Sto) := match v with
  | .loc l => if l < b then some (.loc l, st.restr b) else match st.cs l with
    | some c => if c.lb b then some (.loc b, (st.restr b).alloc c) else none
    | none => none
  | v => (v.res b st.cs).map fun v' => (v', st.restr b)
def settle (b : Nat) (v : PV) (st : Sto) : Option (PV × Sto) := (v.res b st.cs).map fun v' => (v', st.restr b)
def dCall (f : FSem) (adopt : Bool) (a : DA) : DE := fun env st => mb (a env st) fun xs st1 => mb (f xs st1) fun v st2 =>
  if adopt then some (v, st2) else settle st1.nxt v st2
/-- a def: its body over its slots -/
def runF (n : Nat) (np : Nat) (d : DS) : FSem := fun args st =>
  if args.length = np then
    match d (args.map some ++ List.replicate (n - args.length) none) st with
    | some (.rt v, st1) => fin st.nxt v st1
    | some (.nx _, st1) => fin st.nxt .non st1
    | _ => none
  else none

/-- .. all that it made stays -/
def runK (n : Nat) (np : Nat) (d : DS) : FSem := fun args st =>
  if args.length = np then
    match d (args.map some ++ List.replicate (n - args.length) none) st with
    | some (.rt v, st1) => some (v, st1)
    | some (.nx _, st1) => some (.non, st1)
    | _ => none
  else none

/-! tests -/
def asB (x : PV) (st : Sto) : Option (Bool × Sto) := match x with
  | .bl b => some (b, st)
  | _ => none
theorem asB_eq {x : PV} {st st' : Sto} {b : Bool} (h : asB x st = some (b, st')) : x = .bl b ∧ st = st' := by
  unfold asB at h
  split at h
  · cases h; exact ⟨rfl, rfl⟩
  · cases h
theorem asB_bl {b : Bool} {st : Sto} : asB (.bl b) st = some (b, st) := rfl
def tVal (a : DE) : DT := fun env st => mb (a env st) asB
/-- True, False, or a list -/
def asT (x : PV) (st : Sto) : Option (Bool × Sto) := match x with
  | .bl b => some (b, st)
  | x => match lstOf st x with
    | some xs => some (!xs.isEmpty, st)
    | none => none
def tTru (a : DE) : DT := fun env st => mb (a env st) asT
def tAnd (a b : DT) : DT := fun env st => mb (a env st) fun x st1 => if x then b env st1 else some (false, st1)
def tOr (a b : DT) : DT := fun env st => mb (a env st) fun x st1 => if x then some (true, st1) else b env st1
def tNot (a : DT) : DT := fun env st => mb (a env st) fun x st1 => some (!x, st1)
def dAnd (a b : DE) : DE := fun env st => mb (a env st) fun x st1 => mb (asB x st1) fun k st2 => if k then b env st2 else some (.bl false, st2)
def dOr (a b : DE) : DE := fun env st => mb (a env st) fun x st1 => mb (asB x st1) fun k st2 => if k then some (.bl true, st2) else b env st2
def dIte (t : DT) (a b : DE) : DE := fun env st => mb (t env st) fun x st1 => if x then a env st1 else b env st1
def dChain (f g : PV → PV → M PV) (a b c : DE) : DE := fun env st => mb (a env st) fun x st1 => mb (b env st1) fun y st2 => mb (f x y st2) fun r st3 => mb (asB r st3) fun k st4 =>
  if k then mb (c env st4) fun z st5 => g y z st5 else some (.bl false, st4)

/-! what is walked -/
def itsOf (x : PV) (st : Sto) : Option (Its × Sto) := match x with
  | .lst xs => some (⟨xs, none⟩, st)
  | .tup xs => some (⟨xs, none⟩, st)
  | .dct ks _ => some (⟨ks, none⟩, st)
  | .loc l => match st.cs l with
    | some (.lst xs) => some (⟨xs, some (l, .lst xs)⟩, st)
    | some (.dct ks vs t) => some (⟨ks, some (l, .dct ks vs t)⟩, st)
    | _ => none
  | _ => none
def iSeq (a : DE) : DI := fun env st => mb (a env st) itsOf
/-- x.items(), x a dict that nobody changes -/
def itsItems (x : PV) (st : Sto) : Option (Its × Sto) := match x with
  | .dct ks vs => some (⟨List.zipWith (fun k v => PV.tup [k, v]) ks vs, none⟩, st)
  | _ => none
def iItems (a : DE) : DI := fun env st => mb (a env st) itsItems
/-- enumerate(x) -/
def numb : Nat → List PV → List PV
  | _, [] => []
  | k, x :: r => .tup [.int (k : Int), x] :: numb (k + 1) r
def itsEnum (x : PV) (st : Sto) : Option (Its × Sto) := match x with
  | .lst xs => some (⟨numb 0 xs, none⟩, st)
  | .tup xs => some (⟨numb 0 xs, none⟩, st)
  | .loc l => match st.cs l with
    | some (.lst xs) => some (⟨numb 0 xs, some (l, .lst xs)⟩, st)
    | _ => none
  | _ => none
def iEnumP (a : DE) : DI := fun env st => mb (a env st) itsEnum
/-- reversed(x), x a list that nobody changes -/
def itsRev (x : PV) (st : Sto) : Option (Its × Sto) := match x with
  | .lst xs => some (⟨xs.reverse, none⟩, st)
  | _ => none
def iRev (a : DE) : DI := fun env st => mb (a env st) itsRev
def rng (lo hi : Int) : List PV := (List.range (hi - lo).toNat).map fun (k : Nat) => PV.int (lo + (k : Int))
def asI (x : PV) (st : Sto) : Option (Int × Sto) := match x with
  | .int n => some (n, st)
  | _ => none
theorem asI_eq {x : PV} {st st' : Sto} {n : Int} (h : asI x st = some (n, st')) : x = .int n ∧ st = st' := by
  unfold asI at h
  split at h
  · cases h; exact ⟨rfl, rfl⟩
  · cases h
def iRng1 (a : DE) : DI := fun env st => mb (a env st) fun x st1 => mb (asI x st1) fun n st2 => if okRng n then some (⟨rng 0 n, none⟩, st2) else none
def iRng2 (a b : DE) : DI := fun env st => mb (a env st) fun x st1 => mb (b env st1) fun y st2 => mb (asI x st2) fun i st3 => mb (asI y st3) fun j st4 => if okRng i && okRng j then some (⟨rng i j, none⟩, st4) else none
def Its.ok (its : Its) (st : Sto) : Prop := match its.src with
  | none => True
  | some (l, c) => st.cs l = some c
theorem itsOf_lst {st : Sto} {v : PV} {xs : List PV} (h : lstOf st v = some xs) : ∃ src, itsOf v st = some (⟨xs, src⟩, st) ∧ ∀ s : Sto, (∀ l, v = .loc l → s.cs l = st.cs l) → (Its.mk xs src).ok s := by
  unfold lstOf at h
  split at h
  · cases h; exact ⟨none, rfl, fun _ _ => trivial⟩
  · rename_i l
    split at h
    · rename_i ys hl
      cases h
      refine ⟨some (l, .lst xs), ?_, fun s k => ?_⟩
      · show (match st.cs l with | some (.lst xs) => some (Its.mk xs (some (l, .lst xs)), st) | some (.dct ks vs t) => some (Its.mk ks (some (l, .dct ks vs t)), st) | _ => none) = _
        rw [hl]
      · show s.cs l = _
        rw [k l rfl, hl]
    · cases h
  · cases h

/-! targets -/
abbrev DG := PV → Env → M Env
def gName (i : Nat) : DG := fun v env st => some (env.set i (some v), st)
def gList : List DG → List PV → Env → M Env
  | [], [], env, st => some (env, st)
  | g :: gs, v :: vs, env, st => mb (g v env st) fun e1 s1 => gList gs vs e1 s1
  | _, _, _, _ => none
def gTup (gs : List DG) : DG := fun v env st => match v with
  | .tup xs => gList gs xs env st
  | _ => none
def setL : PV → PV → PV → Sto → Option Sto
  | .loc l, y, v, st => match st.cs l with
    | some (.lst xs) => match y with
      | .int i => match ixN xs.length i with
        | some j => if v.lb st.nxt then some (st.set l (.lst (xs.set j v))) else none
        | none => none
      | _ => none
    | some (.dct ks vs t) => if goodK ks y && v.lb st.nxt && decide (ks.length < sizeLine) then some (st.set l (.dct (dput ks vs y v).1 (dput ks vs y v).2 (t + 1))) else none
    | some (.dki ks vs) => match keyP y with
      | some i => if v.lb st.nxt && okLen (ks.length + 1) then some (st.set l (.dki (iput ks vs i v).1 (iput ks vs i v).2)) else none
      | none => none
    | none => none
  | _, _, _, _ => none
/-- o[i] = v -/
def gSub (o i : DE) : DG := fun v env st => mb (o env st) fun x st1 => mb (i env st1) fun y st2 => (setL x y v st2).map fun s => (env, s)

/-! comprehensions -/
def wipeE (env : Env) : List Nat → Env
  | [] => env
  | v :: vs => (wipeE env vs).set v none
open Classical in
noncomputable def lcGo (its : Its) (g : DG) (t : DT) (e : DE) (env : Env) : List PV → Sto → Option (List PV × Sto)
  | [], st => if its.ok st then some ([], st) else none
  | x :: r, st => if its.ok st then
      mb (g x env st) fun env1 st1 => mb (t env1 st1) fun b st2 =>
        if b then mb (e env1 st2) fun y st3 => mb (lcGo its g t e env r st3) fun ys st4 => some (y :: ys, st4)
        else lcGo its g t e env r st2
    else none
noncomputable def dLc (m : Bool) (vs : List Nat) (i : DI) (g : DG) (t : DT) (e : DE) : DE := fun env st =>
  mb (i env st) fun its st1 => mb (lcGo its g t e (wipeE env vs) its.items st1) fun ys st2 => mkL m ys st2
def tYes : DT := fun _ st => some (true, st)

/-! statements -/
def sPass : DS := fun env st => some (.nx env, st)
def sBreak : DS := fun env st => some (.bk env, st)
def sCont : DS := fun env st => some (.ct env, st)
def sSeq (a b : DS) : DS := fun env st => mb (a env st) fun f st1 => match f with
  | .nx e => b e st1
  | f => some (f, st1)
def sAsg (a : DE) (g : DG) : DS := fun env st => mb (a env st) fun x st1 => mb (g x env st1) fun e st2 => some (.nx e, st2)
def sAug (f : PV → PV → M PV) (i : Nat) (a : DE) : DS := fun env st => match env[i]? with
  | some (some x) => mb (a env st) fun y st1 => mb (f x y st1) fun z st2 => some (.nx (env.set i (some z)), st2)
  | _ => none
def sExpr (a : DE) : DS := fun env st => mb (a env st) fun _ st1 => some (.nx env, st1)
def sRet (a : DE) : DS := fun env st => mb (a env st) fun x st1 => some (.rt x, st1)
def sRetN : DS := fun _ st => some (.rt .non, st)
def sIf (t : DT) (a b : DS) : DS := fun env st => mb (t env st) fun x st1 => if x then a env st1 else b env st1
open Classical in
noncomputable def forGo (its : Its) (g : DG) (d : DS) : List PV → Env → Sto → Option (Fl × Sto)
  | [], env, st => if its.ok st then some (.nx env, st) else none
  | x :: r, env, st => if its.ok st then
      mb (g x env st) fun env1 st1 => mb (d env1 st1) fun f st2 => match f with
        | .nx e => forGo its g d r e st2
        | .ct e => forGo its g d r e st2
        | .bk e => some (.nx e, st2)
        | .rt v => some (.rt v, st2)
    else none
noncomputable def sFor (i : DI) (g : DG) (d : DS) : DS := fun env st => mb (i env st) fun its st1 => forGo its g d its.items env st1
def whGo (t : DT) (d : DS) : Nat → Env → Sto → Option (Fl × Sto)
  | 0, _, _ => none
  | n + 1, env, st => mb (t env st) fun b st1 => if b then mb (d env st1) fun f st2 => match f with
        | .nx e => whGo t d n e st2
        | .ct e => whGo t d n e st2
        | .bk e => some (.nx e, st2)
        | .rt v => some (.rt v, st2)
      else some (.nx env, st1)
def sWhile (t : DT) (d : DS) : DS := fun env st => whGo t d 100000 env st
end DL

/-! DL1: how the values of DL0 lie in a heap; worlds and their steps. -/
namespace DL
open PySem PySem.Spec PyProof.Rows L2

/-- a dict's object, by itself -/
def dO (a : Addr) (ob : Obj) : HO := .ext fun h => h.get? a = some ob
/-- its entries -/
def EsR : List PV → List V → List V → List DictEntry → Prop
  | [], kws, vws, es => kws = [] ∧ vws = [] ∧ es = []
  | k :: ks, kws, vws, es => ∃ a as b bs e r, kws = a :: as ∧ vws = b :: bs ∧ es = e :: r ∧ (∃ nk, NK k = some nk ∧ isTK k = true ∧ ∀ w : World, e.hash = nk.hash w) ∧ RelV a e.key ∧ RelV b e.val ∧ EsR ks as bs r
def DObj (a : Addr) (ks : List PV) (kws vws : List V) (ob : Obj) : Prop :=
  ob.ExactDict ∧ (∃ es ep, ob.data = .dict es ep ∧ EsR ks kws vws es.toList) ∧ (a == sysModules) = false ∧ ks.length ≤ sizeLine ∧ (ks.map NK).Nodup
theorem isTK_nk {k : PV} (h : isTK k = true) : ∃ nk, NK k = some nk ∧ noText nk = true ∧ nk.depth ≤ 8 := by
  cases k with
  | tup xs =>
    have h : (match NK (.tup xs) with | some k => noText k && decide (k.depth ≤ 8) | none => false) = true := h
    cases e : NK (.tup xs) with
    | none => rw [e] at h; cases h
    | some nk =>
      rw [e] at h
      have h : (noText nk && decide (nk.depth ≤ 8)) = true := h
      rw [Bool.and_eq_true, decide_eq_true_iff] at h
      exact ⟨nk, rfl, h.1, h.2⟩
  | _ => cases h
mutual
theorem nk_lb : ∀ {x : PV} {k : NestedKey}, NK x = some k → x.lb 0 = true
  | .int _, _, _ => by rw [PV.lb]
  | .non, _, _ => by rw [PV.lb]
  | .str _, _, _ => by rw [PV.lb]
  | .tup xs, _, h => by
    rw [NK] at h
    cases e : NKs xs with
    | none => rw [e] at h; cases h
    | some l => rw [PV.lb]; exact nks_lb e
  | .bl _, _, h => by rw [NK] at h; cases h
  | .lst _, _, h => by rw [NK] at h; cases h
  | .ro _, _, h => by rw [NK] at h; cases h
  | .dct _ _, _, h => by rw [NK] at h; cases h
  | .dki _ _, _, h => by rw [NK] at h; cases h
  | .loc _, _, h => by rw [NK] at h; cases h
theorem nks_lb : ∀ {xs : List PV} {ks : List NestedKey}, NKs xs = some ks → lbs 0 xs = true
  | [], _, _ => by rw [lbs]
  | x :: r, _, h => by
    rw [NKs] at h
    cases e : NK x with
    | none => rw [e] at h; cases h
    | some k =>
      cases e2 : NKs r with
      | none => rw [e, e2] at h; cases h
      | some l => rw [lbs, nk_lb e, nks_lb e2]; rfl
end
theorem EsR.lb : ∀ {ks : List PV} {kws vws : List V} {es : List DictEntry}, EsR ks kws vws es → lbs 0 ks = true
  | [], _, _, _, _ => by rw [lbs]
  | k :: ks, _, _, _, h => by
    obtain ⟨a, as, b, bs, e, r, _, _, _, ⟨nk, h1, _⟩, _, _, h⟩ := h
    rw [lbs, nk_lb h1, EsR.lb h]; rfl

/-- the entries of a dict whose keys are ints -/
def kvI : List KK → List V → List (Key × V)
  | k :: ks, v :: vs => (k, v) :: kvI ks vs
  | _, _ => []
mutual
def RelP (K : PySem.W.Frag) (F : Hp) (ρ : Nat → Addr) (n : Nat) : PV → V → Prop
  | .non, v => v = .non
  | .bl b, v => v = .bl b
  | .int i, v => v = .int i
  | .str x, v => v = .str x
  | .tup xs, v => ∃ a vs, v = .ref a ∧ SqT K F a vs ∧ RelPs K F ρ n xs vs
  | .lst xs, v => ∃ a vs, v = .ref a ∧ F a = some (.lst vs) ∧ RelPs K F ρ n xs vs
  | .ro xs, v => ∃ a vs, v = .ref a ∧ SqL K F a vs ∧ RelPs K F ρ n xs vs
  | .dct ks vs, v => ∃ a ob kws vws, v = .ref a ∧ F a = some (dO a ob) ∧ RelPs K F ρ n ks kws ∧ RelPs K F ρ n vs vws ∧ DObj a ks kws vws ob
  | .dki ks vs, v => ∃ a vws, v = .ref a ∧ F a = some (.dK (kvI ks vws)) ∧ ks.length = vs.length ∧ RelPs K F ρ n vs vws
  | .loc l, v => l < n ∧ v = .ref (ρ l)
def RelPs (K : PySem.W.Frag) (F : Hp) (ρ : Nat → Addr) (n : Nat) : List PV → List V → Prop
  | [], vs => vs = []
  | x :: r, vs => ∃ w ws, vs = w :: ws ∧ RelP K F ρ n x w ∧ RelPs K F ρ n r ws
end
abbrev Sub (F F' : Hp) : Prop := ∀ a o, F a = some o → F' a = some o
theorem Sub.rd {F F' : Hp} {a : Addr} {u : HO} (s : Sub F F') (h : Rd F a u) : Rd F' a u := by
  rcases h with h | ⟨o, h⟩
  · exact .inl (s _ _ h)
  · exact .inr ⟨o, s _ _ h⟩
theorem Sub.sqT {K : PySem.W.Frag} {F F' : Hp} {a : Addr} {vs : List V} (s : Sub F F') (h : SqT K F a vs) : SqT K F' a vs := by
  rcases h with h | h
  · exact .inl (s.rd h)
  · exact .inr h
theorem Sub.sqL {K : PySem.W.Frag} {F F' : Hp} {a : Addr} {vs : List V} (s : Sub F F') (h : SqL K F a vs) : SqL K F' a vs := by
  rcases h with h | h
  · exact .inl (s.rd h)
  · exact .inr h
section
variable {K : PySem.W.Frag} {F F' : Hp} {ρ ρ' : Nat → Addr} {n n' m : Nat}
mutual
theorem RelP.mono (s : Sub F F') (hr : ∀ l, l < n → ρ' l = ρ l) (hn : n ≤ n') : ∀ {x : PV} {v : V}, RelP K F ρ n x v → RelP K F' ρ' n' x v
  | .non, _, h => by rw [RelP] at h ⊢; exact h
  | .bl _, _, h => by rw [RelP] at h ⊢; exact h
  | .int _, _, h => by rw [RelP] at h ⊢; exact h
  | .str _, _, h => by rw [RelP] at h ⊢; exact h
  | .tup xs, _, h => by
    rw [RelP] at h ⊢
    obtain ⟨a, vs, e, q, r⟩ := h
    exact ⟨a, vs, e, s.sqT q, RelPs.mono s hr hn r⟩
  | .lst xs, _, h => by
    rw [RelP] at h ⊢
    obtain ⟨a, vs, e, q, r⟩ := h
    exact ⟨a, vs, e, s _ _ q, RelPs.mono s hr hn r⟩
  | .ro xs, _, h => by
    rw [RelP] at h ⊢
    obtain ⟨a, vs, e, q, r⟩ := h
    exact ⟨a, vs, e, s.sqL q, RelPs.mono s hr hn r⟩
  | .dct ks vs, _, h => by
    rw [RelP] at h ⊢
    obtain ⟨a, ob, kws, vws, e, q, r1, r2, d⟩ := h
    exact ⟨a, ob, kws, vws, e, s _ _ q, RelPs.mono s hr hn r1, RelPs.mono s hr hn r2, d⟩
  | .dki ks vs, _, h => by
    rw [RelP] at h ⊢
    obtain ⟨a, vws, e, q, l, r⟩ := h
    exact ⟨a, vws, e, s _ _ q, l, RelPs.mono s hr hn r⟩
  | .loc l, _, h => by
    rw [RelP] at h ⊢
    obtain ⟨q, e⟩ := h
    exact ⟨Nat.lt_of_lt_of_le q hn, by rw [hr l q]; exact e⟩
theorem RelPs.mono (s : Sub F F') (hr : ∀ l, l < n → ρ' l = ρ l) (hn : n ≤ n') : ∀ {xs : List PV} {vs : List V}, RelPs K F ρ n xs vs → RelPs K F' ρ' n' xs vs
  | [], _, h => by rw [RelPs] at h ⊢; exact h
  | x :: r, _, h => by
    rw [RelPs] at h ⊢
    obtain ⟨w, ws, e, h1, h2⟩ := h
    exact ⟨w, ws, e, RelP.mono s hr hn h1, RelPs.mono s hr hn h2⟩
end
mutual
/-- a value all whose places lie below m -/
theorem RelP.low (hr : ∀ l, l < m → ρ' l = ρ l) : ∀ {x : PV} {v : V}, x.lb m = true → RelP K F ρ n x v → RelP K F ρ' m x v
  | .non, _, _, h => by rw [RelP] at h ⊢; exact h
  | .bl _, _, _, h => by rw [RelP] at h ⊢; exact h
  | .int _, _, _, h => by rw [RelP] at h ⊢; exact h
  | .str _, _, _, h => by rw [RelP] at h ⊢; exact h
  | .tup xs, _, q, h => by
    rw [RelP] at h ⊢
    obtain ⟨a, vs, e, t, r⟩ := h
    exact ⟨a, vs, e, t, RelPs.low hr (by rw [PV.lb] at q; exact q) r⟩
  | .lst xs, _, q, h => by
    rw [RelP] at h ⊢
    obtain ⟨a, vs, e, t, r⟩ := h
    exact ⟨a, vs, e, t, RelPs.low hr (by rw [PV.lb] at q; exact q) r⟩
  | .ro xs, _, q, h => by
    rw [RelP] at h ⊢
    obtain ⟨a, vs, e, t, r⟩ := h
    exact ⟨a, vs, e, t, RelPs.low hr (by rw [PV.lb] at q; exact q) r⟩
  | .dct ks vs, _, q, h => by
    rw [RelP] at h ⊢
    rw [PV.lb, Bool.and_eq_true] at q
    obtain ⟨a, ob, kws, vws, e, t, r1, r2, d⟩ := h
    exact ⟨a, ob, kws, vws, e, t, RelPs.low hr q.1 r1, RelPs.low hr q.2 r2, d⟩
  | .dki ks vs, _, q, h => by
    rw [RelP] at h ⊢
    obtain ⟨a, vws, e, t, l, r⟩ := h
    exact ⟨a, vws, e, t, l, RelPs.low hr (by rw [PV.lb] at q; exact q) r⟩
  | .loc l, _, q, h => by
    rw [RelP] at h ⊢
    rw [PV.lb, decide_eq_true_eq] at q
    exact ⟨q, by rw [hr l q]; exact h.2⟩
theorem RelPs.low (hr : ∀ l, l < m → ρ' l = ρ l) : ∀ {xs : List PV} {vs : List V}, lbs m xs = true → RelPs K F ρ n xs vs → RelPs K F ρ' m xs vs
  | [], _, _, h => by rw [RelPs] at h ⊢; exact h
  | x :: r, _, q, h => by
    rw [RelPs] at h ⊢
    rw [lbs, Bool.and_eq_true] at q
    obtain ⟨w, ws, e, h1, h2⟩ := h
    exact ⟨w, ws, e, RelP.low hr q.1 h1, RelPs.low hr q.2 h2⟩
end
theorem RelPs.free0 {xs : List PV} {vs : List V} (q : lbs 0 xs = true) (h : RelPs K F ρ n xs vs) : RelPs K F ρ' 0 xs vs := RelPs.low (fun _ z => absurd z (Nat.not_lt_zero _)) q h
theorem RelP.free0 {x : PV} {v : V} (q : x.lb 0 = true) (h : RelP K F ρ n x v) : RelP K F ρ' 0 x v := RelP.low (fun _ z => absurd z (Nat.not_lt_zero _)) q h
theorem RelPs.any {xs : List PV} {vs : List V} (h : RelPs K F ρ 0 xs vs) : RelPs K F ρ' n xs vs := RelPs.mono (fun _ _ z => z) (fun _ z => absurd z (Nat.not_lt_zero _)) (Nat.zero_le _) h
theorem RelP.any {x : PV} {v : V} (h : RelP K F ρ 0 x v) : RelP K F ρ' n x v := RelP.mono (fun _ _ z => z) (fun _ z => absurd z (Nat.not_lt_zero _)) (Nat.zero_le _) h
theorem RelPs.nil : RelPs K F ρ n [] [] := by rw [RelPs]
theorem RelPs.cons {x : PV} {v : V} {xs : List PV} {vs : List V} (h : RelP K F ρ n x v) (t : RelPs K F ρ n xs vs) : RelPs K F ρ n (x :: xs) (v :: vs) := by
  rw [RelPs]; exact ⟨v, vs, rfl, h, t⟩
theorem RelPs.inv {x : PV} {xs : List PV} {vs : List V} (h : RelPs K F ρ n (x :: xs) vs) : ∃ w ws, vs = w :: ws ∧ RelP K F ρ n x w ∧ RelPs K F ρ n xs ws := by
  rw [RelPs] at h; exact h
theorem RelPs.inv0 {vs : List V} (h : RelPs K F ρ n [] vs) : vs = [] := by rw [RelPs] at h; exact h
theorem RelPs.length : ∀ {xs : List PV} {vs : List V}, RelPs K F ρ n xs vs → xs.length = vs.length
  | [], _, h => by rw [h.inv0]; rfl
  | x :: r, _, h => by
    obtain ⟨w, ws, e, _, t⟩ := h.inv
    rw [e, List.length_cons, List.length_cons, RelPs.length t]
theorem RelPs.get : ∀ {xs : List PV} {vs : List V} {i : Nat} {x : PV}, RelPs K F ρ n xs vs → xs[i]? = some x → ∃ w, vs[i]? = some w ∧ RelP K F ρ n x w
  | [], _, _, _, _, e => by simp at e
  | y :: r, _, 0, x, h, e => by
    obtain ⟨w, ws, rfl, q, _⟩ := h.inv
    simp at e; subst e
    exact ⟨w, rfl, q⟩
  | y :: r, _, i + 1, x, h, e => by
    obtain ⟨w, ws, rfl, _, t⟩ := h.inv
    obtain ⟨u, h1, h2⟩ := RelPs.get (i := i) t (by simpa using e)
    exact ⟨u, by simpa using h1, h2⟩
theorem RelPs.append : ∀ {xs ys : List PV} {vs ws : List V}, RelPs K F ρ n xs vs → RelPs K F ρ n ys ws → RelPs K F ρ n (xs ++ ys) (vs ++ ws)
  | [], _, _, _, h, q => by rw [h.inv0]; exact q
  | x :: r, _, _, _, h, q => by
    obtain ⟨w, ws, rfl, h1, t⟩ := h.inv
    exact .cons h1 (RelPs.append t q)
theorem RelPs.set {x : PV} {v : V} (q : RelP K F ρ n x v) : ∀ {xs : List PV} {vs : List V} (i : Nat), RelPs K F ρ n xs vs → RelPs K F ρ n (xs.set i x) (vs.set i v)
  | [], _, _, h => by rw [h.inv0]; exact .nil
  | y :: r, _, 0, h => by
    obtain ⟨w, ws, rfl, _, t⟩ := h.inv
    exact .cons q t
  | y :: r, _, i + 1, h => by
    obtain ⟨w, ws, rfl, h1, t⟩ := h.inv
    exact .cons h1 (RelPs.set q i t)
theorem RelPs.take : ∀ {xs : List PV} {vs : List V} (i : Nat), RelPs K F ρ n xs vs → RelPs K F ρ n (xs.take i) (vs.take i)
  | _, _, 0, _ => by rw [List.take_zero, List.take_zero]; exact .nil
  | [], _, _ + 1, h => by rw [h.inv0]; exact .nil
  | y :: r, _, i + 1, h => by
    obtain ⟨w, ws, rfl, h1, t⟩ := h.inv
    exact .cons h1 (RelPs.take i t)
theorem RelPs.drop : ∀ {xs : List PV} {vs : List V} (i : Nat), RelPs K F ρ n xs vs → RelPs K F ρ n (xs.drop i) (vs.drop i)
  | _, _, 0, h => h
  | [], _, _ + 1, h => by rw [h.inv0]; exact .nil
  | y :: r, _, i + 1, h => by
    obtain ⟨w, ws, rfl, h1, t⟩ := h.inv
    exact RelPs.drop i t
theorem RelPs.reverse : ∀ {xs : List PV} {vs : List V}, RelPs K F ρ n xs vs → RelPs K F ρ n xs.reverse vs.reverse
  | [], _, h => by rw [h.inv0]; exact .nil
  | y :: r, _, h => by
    obtain ⟨w, ws, rfl, h1, t⟩ := h.inv
    rw [List.reverse_cons, List.reverse_cons]
    exact .append (RelPs.reverse t) (.cons h1 .nil)
theorem RelPs.dropLast {xs : List PV} {vs : List V} (h : RelPs K F ρ n xs vs) : RelPs K F ρ n xs.dropLast vs.dropLast := by
  rw [List.dropLast_eq_take, List.dropLast_eq_take, h.length]
  exact h.take _
theorem RelPs.replicate {xs : List PV} {vs : List V} (h : RelPs K F ρ n xs vs) : ∀ k : Nat, RelPs K F ρ n (List.replicate k xs).flatten (List.replicate k vs).flatten
  | 0 => .nil
  | k + 1 => by
    rw [List.replicate_succ, List.replicate_succ, List.flatten_cons, List.flatten_cons]
    exact .append h (RelPs.replicate h k)
theorem RelPs.ints : ∀ (ns : List Int), RelPs K F ρ n (ns.map .int) (ns.map V.int)
  | [] => .nil
  | i :: r => .cons (by rw [RelP]) (RelPs.ints r)
theorem RelPs.intsInv : ∀ {xs : List PV} {vs : List V} {ns : List Int}, intsOf xs = some ns → RelPs K F ρ n xs vs → vs = ns.map V.int
  | [], _, _, e, h => by
    rw [intsOf] at e; cases e
    rw [h.inv0]; rfl
  | .int i :: r, _, _, e, h => by
    rw [intsOf] at e
    cases q : intsOf r with
    | none => rw [q] at e; cases e
    | some l =>
      rw [q] at e; cases e
      obtain ⟨w, ws, rfl, h1, t⟩ := h.inv
      rw [RelP] at h1
      rw [h1, RelPs.intsInv q t]; rfl
  | .non :: r, _, _, e, h => by rw [intsOf] at e <;> (try cases e) <;> (intro _ _ z; cases z)
  | .bl _ :: r, _, _, e, h => by rw [intsOf] at e <;> (try cases e) <;> (intro _ _ z; cases z)
  | .str _ :: r, _, _, e, h => by rw [intsOf] at e <;> (try cases e) <;> (intro _ _ z; cases z)
  | .tup _ :: r, _, _, e, h => by rw [intsOf] at e <;> (try cases e) <;> (intro _ _ z; cases z)
  | .lst _ :: r, _, _, e, h => by rw [intsOf] at e <;> (try cases e) <;> (intro _ _ z; cases z)
  | .ro _ :: r, _, _, e, h => by rw [intsOf] at e <;> (try cases e) <;> (intro _ _ z; cases z)
  | .dct _ _ :: r, _, _, e, h => by rw [intsOf] at e <;> (try cases e) <;> (intro _ _ z; cases z)
  | .dki _ _ :: r, _, _, e, h => by rw [intsOf] at e <;> (try cases e) <;> (intro _ _ z; cases z)
  | .loc _ :: r, _, _, e, h => by rw [intsOf] at e <;> (try cases e) <;> (intro _ _ z; cases z)
end

/-! ### worlds -/
def CRel (K : PySem.W.Frag) (F : Hp) (ρ : Nat → Addr) (n : Nat) (a : Addr) : Cell → Option HO → Prop
  | .lst xs, o => ∃ vs, o = some (.lst vs) ∧ RelPs K F ρ n xs vs
  | .dct ks vs _, o => ∃ ob kws vws, o = some (dO a ob) ∧ RelPs K F ρ n ks kws ∧ RelPs K F ρ n vs vws ∧ DObj a ks kws vws ob
  | .dki ks vs, o => ∃ vws, o = some (.dK (kvI ks vws)) ∧ ks.length = vs.length ∧ RelPs K F ρ n vs vws
theorem CRel.mono {K : PySem.W.Frag} {F F' : Hp} {ρ ρ' : Nat → Addr} {n n' : Nat} {a : Addr} {c : Cell} {o : Option HO} (s : Sub F F') (hr : ∀ l, l < n → ρ' l = ρ l) (hn : n ≤ n') (h : CRel K F ρ n a c o) : CRel K F' ρ' n' a c o := by
  cases c with
  | lst xs =>
    obtain ⟨vs, e, r⟩ := h
    exact ⟨vs, e, r.mono s hr hn⟩
  | dct ks vs _ =>
    obtain ⟨ob, kws, vws, e, r1, r2, d⟩ := h
    exact ⟨ob, kws, vws, e, r1.mono s hr hn, r2.mono s hr hn, d⟩
  | dki ks vs =>
    obtain ⟨vws, e, l, r⟩ := h
    exact ⟨vws, e, l, r.mono s hr hn⟩
theorem CRel.low {K : PySem.W.Frag} {F : Hp} {ρ ρ' : Nat → Addr} {n m : Nat} {a : Addr} {c : Cell} {o : Option HO} (hr : ∀ l, l < m → ρ' l = ρ l) (q : c.lb m = true) (h : CRel K F ρ n a c o) : CRel K F ρ' m a c o := by
  cases c with
  | lst xs =>
    obtain ⟨vs, e, r⟩ := h
    exact ⟨vs, e, r.low hr q⟩
  | dct ks vs _ =>
    have q : (lbs m ks && lbs m vs) = true := q
    rw [Bool.and_eq_true] at q
    obtain ⟨ob, kws, vws, e, r1, r2, d⟩ := h
    exact ⟨ob, kws, vws, e, r1.low hr q.1, r2.low hr q.2, d⟩
  | dki ks vs =>
    obtain ⟨vws, e, l, r⟩ := h
    exact ⟨vws, e, l, r.low hr (show lbs m vs = true from q)⟩
theorem CRel.some' {K : PySem.W.Frag} {F : Hp} {ρ : Nat → Addr} {n : Nat} {a : Addr} {c : Cell} {o : Option HO} (h : CRel K F ρ n a c o) : ∃ u, o = some u := by
  cases c with
  | lst xs => obtain ⟨vs, e, _⟩ := h; exact ⟨_, e⟩
  | dct _ _ _ => obtain ⟨ob, _, _, e, _⟩ := h; exact ⟨_, e⟩
  | dki _ _ => obtain ⟨_, e, _⟩ := h; exact ⟨_, e⟩
structure Wld (K : PySem.W.Frag) (F : Hp) (ρ : Nat → Addr) (st : Sto) (H : Hp) : Prop where
  sub : Sub F H
  cell : ∀ l c, st.cs l = some c → F (ρ l) = none ∧ CRel K F ρ st.nxt (ρ l) c (H (ρ l))
  inj : ∀ l l' c c', st.cs l = some c → st.cs l' = some c' → ρ l = ρ l' → l = l'
structure Pst (K : PySem.W.Frag) (F : Hp) (ρ : Nat → Addr) (st : Sto) (H : Hp) (F' : Hp) (ρ' : Nat → Addr) (st' : Sto) (H' : Hp) : Prop where
  ex : Sub F F'
  rho : ∀ l, l < st.nxt → ρ' l = ρ l
  nxt : st.nxt ≤ st'.nxt
  wld : Wld K F' ρ' st' H'
  tk : ∀ l ks vs t, l < st.nxt → st'.cs l = some (.dct ks vs t) → ∃ ks0 vs0 t0, st.cs l = some (.dct ks0 vs0 t0) ∧ t0 ≤ t ∧ (t0 = t → H' (ρ l) = H (ρ l))
  live : ∀ l c, l < st.nxt → st'.cs l = some c → ∃ c0, st.cs l = some c0
  fresh : ∀ l c, st.nxt ≤ l → st'.cs l = some c → H (ρ' l) = none
  ext : ∀ a o, H a = some o → (∀ l c, st.cs l = some c → ρ l ≠ a) → H' a = some o
  dom : ∀ a o, H a = some o → ∃ o', H' a = some o'
  fz : ∀ a o, F' a = some o → F a = some o ∨ H a = none ∨ ∃ l c, st.cs l = some c ∧ ρ l = a
section
variable {K : PySem.W.Frag} {F F1 F2 : Hp} {ρ ρ1 ρ2 : Nat → Addr} {st st1 st2 : Sto} {H H1 H2 : Hp}
theorem Pst.refl (w : Wld K F ρ st H) : Pst K F ρ st H F ρ st H :=
  ⟨fun _ _ z => z, fun _ _ => rfl, Nat.le_refl _, w, fun l ks vs t _ z => ⟨ks, vs, t, z, Nat.le_refl _, fun _ => rfl⟩, fun l c _ z => ⟨c, z⟩, fun l c q z => absurd (Sto.lt_of z) (Nat.not_lt.mpr q), fun _ _ z _ => z, fun _ o z => ⟨o, z⟩, fun _ _ z => .inl z⟩
theorem Pst.trans (a : Pst K F ρ st H F1 ρ1 st1 H1) (b : Pst K F1 ρ1 st1 H1 F2 ρ2 st2 H2) : Pst K F ρ st H F2 ρ2 st2 H2 where
  ex := fun x o z => b.ex x o (a.ex x o z)
  rho := fun l q => (b.rho l (Nat.lt_of_lt_of_le q a.nxt)).trans (a.rho l q)
  nxt := Nat.le_trans a.nxt b.nxt
  wld := b.wld
  tk := fun l ks vs t q z => by
    obtain ⟨ks1, vs1, t1, h1, h2, h3⟩ := b.tk l ks vs t (Nat.lt_of_lt_of_le q a.nxt) z
    obtain ⟨ks0, vs0, t0, g1, g2, g3⟩ := a.tk l ks1 vs1 t1 q h1
    refine ⟨ks0, vs0, t0, g1, Nat.le_trans g2 h2, fun e => ?_⟩
    have e1 : t1 = t := by omega
    have e0 : t0 = t1 := by omega
    rw [← g3 e0, ← a.rho l q]
    exact h3 e1
  live := fun l c q z => by
    obtain ⟨c1, h1⟩ := b.live l c (Nat.lt_of_lt_of_le q a.nxt) z
    exact a.live l c1 q h1
  fresh := fun l c q z => by
    by_cases h : l < st1.nxt
    · obtain ⟨c1, h1⟩ := b.live l c h z
      rw [b.rho l h]
      exact a.fresh l c1 q h1
    · have h2 := b.fresh l c (Nat.not_lt.mp h) z
      cases e : H (ρ2 l) with
      | none => rfl
      | some o =>
        obtain ⟨o', h3⟩ := a.dom _ _ e
        rw [h2] at h3; cases h3
  ext := fun x o z q => by
    refine b.ext x o (a.ext x o z q) fun l c h1 e => ?_
    by_cases h : l < st.nxt
    · obtain ⟨c0, h0⟩ := a.live l c h h1
      exact q l c0 h0 (by rw [← a.rho l h]; exact e)
    · have := a.fresh l c (Nat.not_lt.mp h) h1
      rw [e, z] at this; cases this
  dom := fun x o z => by
    obtain ⟨o1, h1⟩ := a.dom x o z
    exact b.dom x o1 h1
  fz := fun x o z => by
    have gone : H1 x = none → H x = none := fun h => by
      cases e : H x with
      | none => rfl
      | some u =>
        obtain ⟨o', h3⟩ := a.dom _ _ e
        rw [h] at h3; cases h3
    rcases b.fz x o z with h | h | ⟨l, c, h, e⟩
    · exact a.fz x o h
    · exact .inr (.inl (gone h))
    · by_cases q : l < st.nxt
      · obtain ⟨c0, h0⟩ := a.live l c q h
        exact .inr (.inr ⟨l, c0, h0, by rw [← a.rho l q]; exact e⟩)
      · refine .inr (.inl ?_)
        rw [← e]
        exact a.fresh l c (Nat.not_lt.mp q) h
theorem Wld.ne (w : Wld K F ρ st H) {l : Nat} {c : Cell} {p : Addr} (h : st.cs l = some c) (hp : H p = none) : ρ l ≠ p := fun e => by
  obtain ⟨u, hu⟩ := (w.cell l c h).2.some'
  rw [e, hp] at hu; cases hu
/-- a new thing that nobody changes -/
theorem Wld.new (w : Wld K F ρ st H) {p : Addr} {o : HO} (hp : H p = none) : Pst K F ρ st H (upd F p o) ρ st (upd H p o) := by
  have fp : F p = none := by
    cases e : F p with
    | none => rfl
    | some u => have := w.sub p u e; rw [hp] at this; cases this
  have sF : Sub F (upd F p o) := fun a u z => by rw [upd_ne (ne_of_none z fp)]; exact z
  refine ⟨sF, fun _ _ => rfl, Nat.le_refl _, ⟨fun a u z => ?_, fun l c z => ?_, w.inj⟩, fun l ks vs t _ z => ⟨ks, vs, t, z, Nat.le_refl _, fun _ => upd_ne (w.ne z hp)⟩, fun l c _ z => ⟨c, z⟩, fun l c q z => absurd (Sto.lt_of z) (Nat.not_lt.mpr q), fun a u z _ => ?_, fun a u z => ⟨u, ?_⟩, fun a u z => ?_⟩
  · by_cases e : a = p
    · subst e; rw [upd_same] at z ⊢; exact z
    · rw [upd_ne e] at z ⊢; exact w.sub a u z
  · have n := w.ne z hp
    rw [upd_ne n, upd_ne n]
    exact ⟨(w.cell l c z).1, (w.cell l c z).2.mono sF (fun _ _ => rfl) (Nat.le_refl _)⟩
  · rw [upd_ne (ne_of_none z hp)]; exact z
  · rw [upd_ne (ne_of_none z hp)]; exact z
  · by_cases e : a = p
    · subst e; exact .inr (.inl hp)
    · rw [upd_ne e] at z; exact .inl z
/-- a new place -/
theorem Wld.alloc (w : Wld K F ρ st H) {p : Addr} {o : HO} {c : Cell} (hp : H p = none) (hlb : c.lb st.nxt = true) (hc : CRel K F ρ st.nxt p c (some o)) :
    Pst K F ρ st H F (fun l => if l = st.nxt then p else ρ l) (st.alloc c) (upd H p o) := by
  have fp : F p = none := by
    cases e : F p with
    | none => rfl
    | some u => have := w.sub p u e; rw [hp] at this; cases this
  have hr : ∀ l, l < st.nxt → (fun l => if l = st.nxt then p else ρ l) l = ρ l := fun l q => if_neg (by omega)
  refine ⟨fun _ _ z => z, hr, by rw [Sto.alloc_nxt]; omega, ⟨fun a u z => ?_, fun l d z => ?_, fun l l' d d' z z' e => ?_⟩, fun l ks vs t q z => ⟨ks, vs, t, by rw [Sto.alloc_ne (by omega)] at z; exact z, Nat.le_refl _, fun _ => upd_ne (w.ne (show st.cs l = some (.dct ks vs t) by rw [Sto.alloc_ne (by omega)] at z; exact z) hp)⟩, fun l d q z => ?_, fun l d q z => ?_, fun a u z _ => ?_, fun a u z => ⟨u, ?_⟩, fun _ _ z => .inl z⟩
  · rw [upd_ne (ne_of_none z fp)]; exact w.sub a u z
  · by_cases e : l = st.nxt
    · subst e
      rw [Sto.alloc_get hlb] at z; cases z
      rw [if_pos rfl, upd_same]
      exact ⟨fp, hc.mono (fun _ _ z => z) hr (by rw [Sto.alloc_nxt]; omega)⟩
    · rw [Sto.alloc_ne e] at z
      rw [if_neg e, upd_ne (w.ne z hp)]
      exact ⟨(w.cell l d z).1, (w.cell l d z).2.mono (fun _ _ z => z) hr (by rw [Sto.alloc_nxt]; omega)⟩
  · by_cases h : l = st.nxt
    · by_cases h' : l' = st.nxt
      · rw [h, h']
      · rw [if_pos h, if_neg h'] at e
        rw [Sto.alloc_ne h'] at z'
        exact absurd e.symm (w.ne z' hp)
    · by_cases h' : l' = st.nxt
      · rw [if_neg h, if_pos h'] at e
        rw [Sto.alloc_ne h] at z
        exact absurd e (w.ne z hp)
      · rw [if_neg h, if_neg h'] at e
        rw [Sto.alloc_ne h] at z
        rw [Sto.alloc_ne h'] at z'
        exact w.inj l l' d d' z z' e
  · rw [Sto.alloc_ne (by omega)] at z; exact ⟨d, z⟩
  · by_cases e : l = st.nxt
    · rw [if_pos e]; exact hp
    · rw [Sto.alloc_ne e] at z
      exact absurd (Sto.lt_of z) (Nat.not_lt.mpr q)
  · rw [upd_ne (ne_of_none z hp)]; exact z
  · rw [upd_ne (ne_of_none z hp)]; exact z
/-- a place is rewritten -/
def tickOk : Cell → Cell → Prop
  | .dct _ _ t, .dct _ _ t' => t < t'
  | _, .dct _ _ _ => False
  | _, _ => True
theorem tick_lst {c : Cell} {xs : List PV} : tickOk c (.lst xs) := by cases c <;> trivial
theorem tick_dki {c : Cell} {ks : List KK} {vs : List PV} : tickOk c (.dki ks vs) := by cases c <;> trivial
theorem tick_dct {ks vs ks' vs' : List PV} {t : Nat} : tickOk (.dct ks vs t) (.dct ks' vs' (t + 1)) := Nat.lt_succ_self t
theorem Wld.set (w : Wld K F ρ st H) {l : Nat} {o : HO} {c c0 : Cell} (hl : st.cs l = some c0) (ht : tickOk c0 c) (hlb : c.lb st.nxt = true) (hc : CRel K F ρ st.nxt (ρ l) c (some o)) : Pst K F ρ st H F ρ (st.set l c) (upd H (ρ l) o) := by
  obtain ⟨fl, hcl⟩ := w.cell l c0 hl
  refine ⟨fun _ _ z => z, fun _ _ => rfl, Nat.le_refl _, ⟨fun a u z => ?_, fun j d z => ?_, fun j j' d d' z z' e => ?_⟩, fun j ks vs t q z => ?_, fun j d q z => ?_, fun j d q z => ?_, fun a u z n => ?_, fun a u z => ?_, fun _ _ z => .inl z⟩
  · rw [upd_ne (ne_of_none z fl)]; exact w.sub a u z
  · by_cases e : j = l
    · subst e
      rw [Sto.set_get hl hlb] at z; cases z
      rw [upd_same]
      exact ⟨fl, hc⟩
    · rw [Sto.set_ne e] at z
      have n : ρ j ≠ ρ l := fun q => e (w.inj j l d c0 z hl q)
      rw [upd_ne n]
      exact w.cell j d z
  · have h : ∃ d0, st.cs j = some d0 := by
      by_cases e : j = l
      · subst e; exact ⟨_, hl⟩
      · rw [Sto.set_ne e] at z; exact ⟨_, z⟩
    have h' : ∃ d0, st.cs j' = some d0 := by
      by_cases e : j' = l
      · subst e; exact ⟨_, hl⟩
      · rw [Sto.set_ne e] at z'; exact ⟨_, z'⟩
    obtain ⟨d0, h⟩ := h
    obtain ⟨d1, h'⟩ := h'
    exact w.inj j j' d0 d1 h h' e
  · by_cases e : j = l
    · subst e
      rw [Sto.set_get hl hlb] at z
      cases z
      cases c0 with
      | dct ks0 vs0 t0 =>
        have ht : t0 < t := ht
        exact ⟨ks0, vs0, t0, hl, Nat.le_of_lt ht, fun e => absurd e (by omega)⟩
      | lst _ => exact ht.elim
      | dki _ _ => exact ht.elim
    · rw [Sto.set_ne e] at z
      exact ⟨ks, vs, t, z, Nat.le_refl _, fun _ => upd_ne fun q => e (w.inj j l _ c0 z hl q)⟩
  · by_cases e : j = l
    · subst e; exact ⟨_, hl⟩
    · rw [Sto.set_ne e] at z; exact ⟨_, z⟩
  · exact absurd (Sto.lt_of z) (Nat.not_lt.mpr q)
  · rw [upd_ne (Ne.symm (n l c0 hl))]; exact z
  · by_cases e : a = ρ l
    · subst e; exact ⟨o, upd_same⟩
    · rw [upd_ne e]; exact ⟨u, z⟩
open Classical in
noncomputable def mixF (b : Nat) (st : Sto) (ρ : Nat → Addr) (H F : Hp) : Hp := fun a => if ∃ l c, b ≤ l ∧ st.cs l = some c ∧ ρ l = a then H a else F a
theorem mixF_pos {b : Nat} {a : Addr} (h : ∃ l c, b ≤ l ∧ st.cs l = some c ∧ ρ l = a) : mixF b st ρ H F a = H a := if_pos h
theorem mixF_neg {b : Nat} {a : Addr} (h : ¬ ∃ l c, b ≤ l ∧ st.cs l = some c ∧ ρ l = a) : mixF b st ρ H F a = F a := if_neg h
/-- the places from b on are places no more: what stands there stays so -/
theorem Wld.drop (w : Wld K F ρ st H) {b : Nat} (hb : b ≤ st.nxt) : ∃ F', Sub F F' ∧ Wld K F' ρ (st.restr b) H ∧ (∀ l c, b ≤ l → st.cs l = some c → F' (ρ l) = H (ρ l)) ∧ ∀ a o, F' a = some o → F a = some o ∨ ∃ l c, b ≤ l ∧ st.cs l = some c ∧ ρ l = a := by
  have sub : Sub F (mixF b st ρ H F) := fun a o z => by
    by_cases h : ∃ l c, b ≤ l ∧ st.cs l = some c ∧ ρ l = a
    · rw [mixF_pos h]; exact w.sub a o z
    · rw [mixF_neg h]; exact z
  have low : ∀ l c, (st.restr b).cs l = some c → st.cs l = some c ∧ l < b ∧ c.lb b = true := fun l c z => Sto.restr_get z
  refine ⟨mixF b st ρ H F, sub, ⟨fun a o z => ?_, fun l c z => ?_, fun l l' c c' z z' e => w.inj l l' c c' (low l c z).1 (low l' c' z').1 e⟩, fun l c q z => mixF_pos ⟨l, c, q, z, rfl⟩, fun a o z => ?_⟩
  · by_cases h : ∃ l c, b ≤ l ∧ st.cs l = some c ∧ ρ l = a
    · rw [mixF_pos h] at z; exact z
    · rw [mixF_neg h] at z; exact w.sub a o z
  · obtain ⟨z, q, qb⟩ := low l c z
    obtain ⟨f, r⟩ := w.cell l c z
    refine ⟨?_, (r.low (fun _ _ => rfl) qb).mono sub (fun _ _ => rfl) (Nat.le_refl _)⟩
    rw [mixF_neg]
    · exact f
    · rintro ⟨l', c', h1, h2, h3⟩
      have := w.inj l' l c' c h2 z h3
      omega
  · by_cases h : ∃ l c, b ≤ l ∧ st.cs l = some c ∧ ρ l = a
    · exact .inr h
    · rw [mixF_neg h] at z; exact .inl z
/-- a thing at D that is no part of the world is written -/
theorem Pst.side (a : Pst K F ρ st H F1 ρ1 st1 H1) {D : Addr} {o : HO} (hD : H D = none) (fD : F1 D = none) (nD : ∀ l c, st1.cs l = some c → ρ1 l ≠ D) : Pst K F ρ st H F1 ρ1 st1 (upd H1 D o) := by
  refine ⟨a.ex, a.rho, a.nxt, ⟨fun x u z => ?_, fun l c z => ?_, a.wld.inj⟩, fun l ks vs t q z => ?_, a.live, a.fresh, fun x u z n => ?_, fun x u z => ?_, a.fz⟩
  · rw [upd_ne (ne_of_none z fD)]; exact a.wld.sub x u z
  · rw [upd_ne (nD l c z)]; exact a.wld.cell l c z
  · obtain ⟨ks0, vs0, t0, g1, g2, g3⟩ := a.tk l ks vs t q z
    refine ⟨ks0, vs0, t0, g1, g2, fun e => ?_⟩
    rw [← a.rho l q, upd_ne (nD l _ z), a.rho l q]
    exact g3 e
  · rw [upd_ne (ne_of_none z hD)]; exact a.ext x u z n
  · rw [upd_ne (ne_of_none z hD)]; exact a.dom x u z
/-- .. it is a value of the world from now on -/
theorem Pst.keepV (a : Pst K F ρ st H F1 ρ1 st1 H1) {D : Addr} {o : HO} (hD : H D = none) (fD : F1 D = none) (nD : ∀ l c, st1.cs l = some c → ρ1 l ≠ D) (h : H1 D = some o) : Pst K F ρ st H (upd F1 D o) ρ1 st1 H1 := by
  have sF : Sub F1 (upd F1 D o) := fun x u z => by rw [upd_ne (ne_of_none z fD)]; exact z
  refine ⟨fun x u z => sF x u (a.ex x u z), a.rho, a.nxt, ⟨fun x u z => ?_, fun l c z => ?_, a.wld.inj⟩, a.tk, a.live, a.fresh, a.ext, a.dom, fun x u z => ?_⟩
  · by_cases e : x = D
    · subst e; rw [upd_same] at z; cases z; exact h
    · rw [upd_ne e] at z; exact a.wld.sub x u z
  · rw [upd_ne (nD l c z)]
    exact ⟨(a.wld.cell l c z).1, (a.wld.cell l c z).2.mono sF (fun _ _ => rfl) (Nat.le_refl _)⟩
  · by_cases e : x = D
    · subst e; exact .inr (.inl hD)
    · rw [upd_ne e] at z; exact a.fz x u z
/-- .. it is a place from now on -/
theorem Pst.keepL (a : Pst K F ρ st H F1 ρ1 st1 H1) {D : Addr} {o : HO} {c : Cell} (hD : H D = none) (fD : F1 D = none) (nD : ∀ l c, st1.cs l = some c → ρ1 l ≠ D) (h : H1 D = some o) (hlb : c.lb st1.nxt = true) (hc : CRel K F1 ρ1 st1.nxt D c (some o)) :
    Pst K F ρ st H F1 (fun l => if l = st1.nxt then D else ρ1 l) (st1.alloc c) H1 := by
  have hr : ∀ l, l < st1.nxt → (fun l => if l = st1.nxt then D else ρ1 l) l = ρ1 l := fun l q => if_neg (by omega)
  refine ⟨a.ex, fun l q => ?_, Nat.le_succ_of_le a.nxt, ⟨a.wld.sub, fun l d z => ?_, fun l l' d d' z z' e => ?_⟩, fun l ks vs t q z => a.tk l ks vs t q (by have := a.nxt; rw [Sto.alloc_ne (by omega)] at z; exact z), fun l d q z => ?_, fun l d q z => ?_, a.ext, a.dom, a.fz⟩
  · have := a.nxt
    show (if l = st1.nxt then D else ρ1 l) = ρ l
    rw [if_neg (by omega)]; exact a.rho l q
  · by_cases e : l = st1.nxt
    · subst e
      rw [Sto.alloc_get hlb] at z; cases z
      rw [if_pos rfl, h]
      exact ⟨fD, hc.mono (fun _ _ z => z) hr (by rw [Sto.alloc_nxt]; omega)⟩
    · rw [Sto.alloc_ne e] at z
      rw [if_neg e]
      exact ⟨(a.wld.cell l d z).1, (a.wld.cell l d z).2.mono (fun _ _ z => z) hr (by rw [Sto.alloc_nxt]; omega)⟩
  · by_cases h1 : l = st1.nxt
    · by_cases h2 : l' = st1.nxt
      · rw [h1, h2]
      · rw [if_pos h1, if_neg h2] at e
        rw [Sto.alloc_ne h2] at z'
        exact absurd e.symm (nD l' d' z')
    · by_cases h2 : l' = st1.nxt
      · rw [if_neg h1, if_pos h2] at e
        rw [Sto.alloc_ne h1] at z
        exact absurd e (nD l d z)
      · rw [if_neg h1, if_neg h2] at e
        rw [Sto.alloc_ne h1] at z
        rw [Sto.alloc_ne h2] at z'
        exact a.wld.inj l l' d d' z z' e
  · have := a.nxt
    rw [Sto.alloc_ne (by omega)] at z
    exact a.live l d q z
  · by_cases e : l = st1.nxt
    · rw [if_pos e]; exact hD
    · rw [if_neg e]
      rw [Sto.alloc_ne e] at z
      exact a.fresh l d q z
/-- a place is no place more -/
theorem Pst.kill (a : Pst K F ρ st H F1 ρ1 st1 H1) (l : Nat) : Pst K F ρ st H F1 ρ1 (st1.kill l) H1 := by
  have sub : ∀ j c, (st1.kill l).cs j = some c → st1.cs j = some c := fun j c z => by
    by_cases e : j = l
    · subst e; rw [Sto.kill_get] at z; cases z
    · rw [Sto.kill_ne e] at z; exact z
  exact ⟨a.ex, a.rho, a.nxt, ⟨a.wld.sub, fun j c z => a.wld.cell j c (sub j c z), fun j j' c c' z z' e => a.wld.inj j j' c c' (sub j c z) (sub j' c' z') e⟩, fun j ks vs t q z => a.tk j ks vs t q (sub j _ z), fun j c q z => a.live j c q (sub j c z), fun j c q z => a.fresh j c q (sub j c z), a.ext, a.dom, a.fz⟩
/-- what stands at a place becomes a value -/
theorem Wld.freeze (w : Wld K F ρ st H) {l : Nat} {c : Cell} (hl : st.cs l = some c) : ∃ F', Pst K F ρ st H F' ρ (st.kill l) H ∧ RelP K F' ρ st.nxt c.val (.ref (ρ l)) := by
  obtain ⟨fl, r⟩ := w.cell l _ hl
  obtain ⟨o, hv⟩ := r.some'
  have sF : Sub F (upd F (ρ l) o) := fun a u z => by rw [upd_ne (ne_of_none z fl)]; exact z
  have sub : ∀ j c, (st.kill l).cs j = some c → st.cs j = some c ∧ j ≠ l := fun j c z => by
    by_cases e : j = l
    · subst e; rw [Sto.kill_get] at z; cases z
    · rw [Sto.kill_ne e] at z; exact ⟨z, e⟩
  refine ⟨upd F (ρ l) o, ⟨sF, fun _ _ => rfl, Nat.le_refl _, ⟨fun a u z => ?_, fun j c z => ?_, fun j j' c c' z z' e => w.inj j j' c c' (sub j c z).1 (sub j' c' z').1 e⟩, fun j ks vs t _ z => ⟨ks, vs, t, (sub j _ z).1, Nat.le_refl _, fun _ => rfl⟩, fun j c _ z => ⟨c, (sub j c z).1⟩, fun j c q z => absurd (Sto.lt_of (sub j c z).1) (Nat.not_lt.mpr q), fun _ _ z _ => z, fun _ o z => ⟨o, z⟩, fun a o z => ?_⟩, ?_⟩
  · by_cases e : a = ρ l
    · subst e; rw [upd_same] at z; cases z; exact hv
    · rw [upd_ne e] at z; exact w.sub a u z
  · obtain ⟨z, e⟩ := sub j c z
    have n : ρ j ≠ ρ l := fun q => e (w.inj j l c _ z hl q)
    rw [upd_ne n]
    exact ⟨(w.cell j c z).1, (w.cell j c z).2.mono sF (fun _ _ => rfl) (Nat.le_refl _)⟩
  · by_cases e : a = ρ l
    · exact .inr (.inr ⟨l, _, hl, e.symm⟩)
    · rw [upd_ne e] at z; exact .inl z
  · rw [hv] at r
    cases c with
    | lst xs =>
      obtain ⟨vs, e, r⟩ := r
      cases e
      show RelP K _ ρ st.nxt (.lst xs) _
      rw [RelP]
      exact ⟨ρ l, vs, rfl, upd_same, r.mono sF (fun _ _ => rfl) (Nat.le_refl _)⟩
    | dct ks vs _ =>
      obtain ⟨ob, kws, vws, e, r1, r2, d⟩ := r
      cases e
      show RelP K _ ρ st.nxt (.dct ks vs) _
      rw [RelP]
      exact ⟨ρ l, ob, kws, vws, rfl, upd_same, r1.mono sF (fun _ _ => rfl) (Nat.le_refl _), r2.mono sF (fun _ _ => rfl) (Nat.le_refl _), d⟩
    | dki ks vs =>
      obtain ⟨vws, e, ll, r⟩ := r
      cases e
      show RelP K _ ρ st.nxt (.dki ks vs) _
      rw [RelP]
      exact ⟨ρ l, vws, rfl, upd_same, ll, r.mono sF (fun _ _ => rfl) (Nat.le_refl _)⟩
mutual
/-- what is told in the place's stead lies there -/
theorem RelP.subst {F' : Hp} {b n : Nat} {f : Nat → Option PV} (sF : Sub F F') (hf : ∀ l x', f l = some x' → RelP K F' ρ b x' (.ref (ρ l))) : ∀ {x x' : PV} {v : V}, RelP K F ρ n x v → x.sub f = some x' → RelP K F' ρ b x' v
  | .non, _, _, h, e => by rw [PV.sub] at e; cases e; rw [RelP] at h ⊢; exact h
  | .bl _, _, _, h, e => by rw [PV.sub] at e; cases e; rw [RelP] at h ⊢; exact h
  | .int _, _, _, h, e => by rw [PV.sub] at e; cases e; rw [RelP] at h ⊢; exact h
  | .str _, _, _, h, e => by rw [PV.sub] at e; cases e; rw [RelP] at h ⊢; exact h
  | .tup xs, _, _, h, e => by
    rw [PV.sub] at e
    cases q : subs f xs with
    | none => rw [q] at e; cases e
    | some ys =>
      rw [q] at e; cases e
      rw [RelP] at h ⊢
      obtain ⟨a, vs, e, t, r⟩ := h
      exact ⟨a, vs, e, sF.sqT t, RelPs.subst sF hf r q⟩
  | .lst xs, _, _, h, e => by
    rw [PV.sub] at e
    cases q : subs f xs with
    | none => rw [q] at e; cases e
    | some ys =>
      rw [q] at e; cases e
      rw [RelP] at h ⊢
      obtain ⟨a, vs, e, t, r⟩ := h
      exact ⟨a, vs, e, sF _ _ t, RelPs.subst sF hf r q⟩
  | .ro xs, _, _, h, e => by
    rw [PV.sub] at e
    cases q : subs f xs with
    | none => rw [q] at e; cases e
    | some ys =>
      rw [q] at e; cases e
      rw [RelP] at h ⊢
      obtain ⟨a, vs, e, t, r⟩ := h
      exact ⟨a, vs, e, sF.sqL t, RelPs.subst sF hf r q⟩
  | .dct ks vs, _, _, h, e => by
    rw [PV.sub] at e
    rw [RelP] at h
    obtain ⟨a, ob, kws, vws, e0, t, r1, r2, d⟩ := h
    have hk : lbs 0 ks = true := by obtain ⟨_, ⟨es, ep, _, z⟩, _⟩ := d; exact z.lb
    rw [subs_lb (b := 0) (fun _ z => absurd z (Nat.not_lt_zero _)) hk] at e
    cases q : subs f vs with
    | none => rw [q] at e; cases e
    | some ys =>
      rw [q] at e; cases e
      rw [RelP]
      exact ⟨a, ob, kws, vws, e0, sF _ _ t, (r1.free0 (ρ' := ρ) hk).any.mono sF (fun _ _ => rfl) (Nat.le_refl _), RelPs.subst sF hf r2 q, d⟩
  | .dki ks vs, _, _, h, e => by
    rw [PV.sub] at e
    cases q : subs f vs with
    | none => rw [q] at e; cases e
    | some ys =>
      rw [q] at e; cases e
      rw [RelP] at h ⊢
      obtain ⟨a, vws, e, t, l, r⟩ := h
      have r' := RelPs.subst sF hf r q
      exact ⟨a, vws, e, sF _ _ t, by rw [l, r.length, r'.length], r'⟩
  | .loc l, _, _, h, e => by
    rw [PV.sub] at e
    rw [RelP] at h
    obtain ⟨h1, rfl⟩ := h
    exact hf l _ e
theorem RelPs.subst {F' : Hp} {b n : Nat} {f : Nat → Option PV} (sF : Sub F F') (hf : ∀ l x', f l = some x' → RelP K F' ρ b x' (.ref (ρ l))) : ∀ {xs xs' : List PV} {vs : List V}, RelPs K F ρ n xs vs → subs f xs = some xs' → RelPs K F' ρ b xs' vs
  | [], _, _, h, e => by rw [subs] at e; cases e; rw [h.inv0]; exact .nil
  | x :: r, _, _, h, e => by
    rw [subs] at e
    cases q : x.sub f with
    | none => rw [q] at e; cases e
    | some y =>
      cases q2 : subs f r with
      | none => rw [q, q2] at e; cases e
      | some ys =>
        rw [q, q2] at e; cases e
        obtain ⟨w', ws, rfl, h1, t⟩ := h.inv
        exact .cons (RelP.subst sF hf h1 q) (RelPs.subst sF hf t q2)
end
theorem rsv_rel {F' : Hp} {b : Nat} (w : Wld K F ρ st H) (sF : Sub F F') (hf : ∀ l c, b ≤ l → st.cs l = some c → F' (ρ l) = H (ρ l)) : ∀ (m l : Nat) (x' : PV), rsv b st.cs m l = some x' → RelP K F' ρ b x' (.ref (ρ l)) := by
  intro m
  induction m with
  | zero =>
    intro l x' e
    have e : (if l < b then some (PV.loc l) else none) = some x' := e
    split at e
    · rename_i q
      cases e
      rw [RelP]
      exact ⟨q, rfl⟩
    · cases e
  | succ m ih =>
    intro l x' e
    by_cases q : l < b
    · rw [rsv_lt q] at e
      cases e
      rw [RelP]
      exact ⟨q, rfl⟩
    · cases d : st.cs l with
      | none =>
        have e : (if l < b then some (PV.loc l) else match st.cs l with | some c => c.val.sub (rsv b st.cs m) | none => none) = some x' := e
        rw [if_neg q, d] at e
        cases e
      | some c =>
        rw [rsv_ge (Nat.not_lt.mp q) d] at e
        obtain ⟨_, r⟩ := w.cell l c d
        have hF := hf l c (Nat.not_lt.mp q) d
        cases c with
        | lst xs =>
          obtain ⟨vs, hv, r⟩ := r
          have e : (PV.lst xs).sub (rsv b st.cs m) = some x' := e
          rw [PV.sub] at e
          cases z : subs (rsv b st.cs m) xs with
          | none => rw [z] at e; cases e
          | some ys =>
            rw [z] at e; cases e
            rw [RelP]
            exact ⟨ρ l, vs, rfl, by rw [hF]; exact hv, RelPs.subst sF ih r z⟩
        | dct ks vs =>
          obtain ⟨ob, kws, vws, hv, r1, r2, dd⟩ := r
          have e : (PV.dct ks vs).sub (rsv b st.cs m) = some x' := e
          have hk : lbs 0 ks = true := by obtain ⟨_, ⟨es, ep, _, z⟩, _⟩ := dd; exact z.lb
          rw [PV.sub, subs_lb (b := 0) (fun _ z => absurd z (Nat.not_lt_zero _)) hk] at e
          cases z : subs (rsv b st.cs m) vs with
          | none => rw [z] at e; cases e
          | some ys =>
            rw [z] at e; cases e
            rw [RelP]
            exact ⟨ρ l, ob, kws, vws, rfl, by rw [hF]; exact hv, (r1.free0 (ρ' := ρ) hk).any.mono sF (fun _ _ => rfl) (Nat.le_refl _), RelPs.subst sF ih r2 z, dd⟩
        | dki ks vs =>
          obtain ⟨vws, hv, ll, r⟩ := r
          have e : (PV.dki ks vs).sub (rsv b st.cs m) = some x' := e
          rw [PV.sub] at e
          cases z : subs (rsv b st.cs m) vs with
          | none => rw [z] at e; cases e
          | some ys =>
            rw [z] at e; cases e
            rw [RelP]
            have r' := RelPs.subst sF ih r z
            exact ⟨ρ l, vws, rfl, by rw [hF]; exact hv, by rw [ll, r.length, r'.length], r'⟩
theorem RelP.res {F' : Hp} {b n : Nat} (w : Wld K F ρ st H) (sF : Sub F F') (hf : ∀ l c, b ≤ l → st.cs l = some c → F' (ρ l) = H (ρ l)) {x x' : PV} {v : V} (h : RelP K F ρ n x v) (e : x.res b st.cs = some x') : RelP K F' ρ b x' v :=
  RelP.subst sF (rsv_rel w sF hf 8) h e
/-- from st the places from b on are dropped: seen from an elder state at b -/
theorem Pst.drop {b : Nat} (a : Pst K F ρ st H F1 ρ1 st1 H1) (hb : b = st.nxt) : ∃ F', Sub F1 F' ∧ Pst K F ρ st H F' ρ1 (st1.restr b) H1 ∧ (∀ l c, b ≤ l → st1.cs l = some c → F' (ρ1 l) = H1 (ρ1 l)) ∧ ∀ x o, F' x = some o → F1 x = some o ∨ ∃ l c, b ≤ l ∧ st1.cs l = some c ∧ ρ1 l = x := by
  obtain ⟨F', s, w, f, g⟩ := a.wld.drop (b := b) (by rw [hb]; exact a.nxt)
  have sub : ∀ l c, (st1.restr b).cs l = some c → st1.cs l = some c ∧ l < b := fun l c z => ⟨(Sto.restr_get z).1, (Sto.restr_get z).2.1⟩
  refine ⟨F', s, ⟨fun x o z => s _ _ (a.ex x o z), a.rho, by rw [Sto.restr_nxt, hb]; exact Nat.le_refl _, w, fun l ks vs t q z => a.tk l ks vs t q (sub l _ z).1, fun l c q z => a.live l c q (sub l c z).1, fun l c q z => absurd (sub l c z).2 (by omega), a.ext, a.dom, fun x o z => ?_⟩, f, g⟩
  rcases g x o z with h | ⟨l, c, h1, h2, h3⟩
  · exact a.fz x o h
  · refine .inr (.inl ?_)
    rw [← h3]
    exact a.fresh l c (by rw [← hb]; exact h1) h2
end

/-! ### slots -/
def ERel (K : PySem.W.Frag) (F : Hp) (ρ : Nat → Addr) (n : Nat) (env : Env) (σ : L2.St) : Prop :=
  env.length = σ.length ∧ ∀ (i : Nat) (v : PV), env[i]? = some (some v) → ∃ w, σ[i]? = some (some w) ∧ RelP K F ρ n v w
section
variable {K : PySem.W.Frag} {F F1 F2 : Hp} {ρ ρ1 ρ2 : Nat → Addr} {st st1 st2 : Sto} {H H1 H2 : Hp} {env : Env} {σ : L2.St} {n n' : Nat}
theorem ERel.mono (s : Sub F F1) (hr : ∀ l, l < n → ρ1 l = ρ l) (hn : n ≤ n') (h : ERel K F ρ n env σ) : ERel K F1 ρ1 n' env σ :=
  ⟨h.1, fun i v e => let ⟨w, e2, r⟩ := h.2 i v e; ⟨w, e2, r.mono s hr hn⟩⟩
theorem ERel.step (a : Pst K F ρ st H F1 ρ1 st1 H1) (h : ERel K F ρ st.nxt env σ) : ERel K F1 ρ1 st1.nxt env σ := h.mono a.ex a.rho a.nxt
theorem RelP.step {v : PV} {w : V} (a : Pst K F ρ st H F1 ρ1 st1 H1) (h : RelP K F ρ st.nxt v w) : RelP K F1 ρ1 st1.nxt v w := h.mono a.ex a.rho a.nxt
theorem RelPs.step {v : List PV} {w : List V} (a : Pst K F ρ st H F1 ρ1 st1 H1) (h : RelPs K F ρ st.nxt v w) : RelPs K F1 ρ1 st1.nxt v w := h.mono a.ex a.rho a.nxt
theorem ERel.set {v : PV} {w : V} (h : ERel K F ρ n env σ) (r : RelP K F ρ n v w) (i : Nat) : ERel K F ρ n (env.set i (some v)) (σ.set i (some w)) := by
  refine ⟨by rw [List.length_set, List.length_set]; exact h.1, fun j u e => ?_⟩
  by_cases q : i = j
  · subst q
    by_cases hl : i < env.length
    · rw [List.getElem?_set_self hl] at e; cases e
      exact ⟨w, List.getElem?_set_self (by rw [← h.1]; exact hl), r⟩
    · rw [List.getElem?_eq_none (by rw [List.length_set]; omega)] at e; cases e
  · rw [List.getElem?_set_ne q] at e ⊢
    exact h.2 j u e
theorem ERel.wipe1 (h : ERel K F ρ n env σ) (i : Nat) : ERel K F ρ n (env.set i none) (σ.set i none) := by
  refine ⟨by rw [List.length_set, List.length_set]; exact h.1, fun j u e => ?_⟩
  by_cases q : i = j
  · subst q
    by_cases hl : i < env.length
    · rw [List.getElem?_set_self hl] at e; cases e
    · rw [List.getElem?_eq_none (by rw [List.length_set]; omega)] at e; cases e
  · rw [List.getElem?_set_ne q] at e ⊢
    exact h.2 j u e
theorem ERel.wipe (h : ERel K F ρ n env σ) : ∀ vs : List Nat, ERel K F ρ n (wipeE env vs) (L2.wipe σ vs)
  | [] => h
  | v :: vs => by rw [wipeE, L2.wipe]; exact (ERel.wipe h vs).wipe1 v
end
end DL

/-! DL2: expressions: what DL0's pieces compute is what the text computes. -/
namespace DL
open PySem PySem.Spec PyProof.Rows L2

section
variable (X : Cx)
def wE (e : Expr) : TE := fun σ H Q => ∀ pins s, Inv X pins σ H s → wpAny (model X.prog X.w) X.A (eval e X.env) (EP X pins σ Q) X.xe s
def wT (e : Expr) : TT := fun σ H Q => ∀ pins s, Inv X pins σ H s → wpAny (model X.prog X.w) X.A (isTrue e X.env (eval e X.env)) (TP X pins σ Q) X.xe s
def wW (e : Expr) : TT := fun σ H Q => ∀ whole pins s, Inv X pins σ H s → wpAny (model X.prog X.w) X.A (isTrue e X.env whole) (TP X pins σ Q) X.xe s
def wA (es : List Expr) : TA := fun σ H Q => ∀ pos pins s, Inv X pins σ H s → wpAny (model X.prog X.w) X.A (spliced (backTo pos (starEach es X.env))) (AP X pins σ Q) X.xe s
def wS (s : Stmt) : TS := fun D σ H => ∀ pins st, Inv X pins σ H st → wpAny (model X.prog X.w) X.A (exec s X.env) (SP X pins D) X.xe st
def wSs (s : List Stmt) : TS := fun D σ H => ∀ pins st, Inv X pins σ H st → wpAny (model X.prog X.w) X.A (execs s X.env) (SP X pins D) X.xe st
def wI (tg iter : Expr) : TI := fun σ H R => ∀ pins s, Inv X pins σ H s → wpAny (model X.prog X.w) X.A (eval iter X.env) (fun v s1 => wpAny (model X.prog X.w) X.A (pyIter v) (PIE X pins σ tg R) X.xe s1) X.xe s
def wG (tg : Expr) : TG := fun v σ H Q => ∀ pins s u, Inv X pins σ H s → RelV v u → wpAny (model X.prog X.w) X.A (assign tg X.env u) (fun _ s' => ∃ σ' H', Inv X pins σ' H' s' ∧ Q σ' H') X.xe s
def wGs (ts : List Expr) : TGs := fun vs σ H Q => ∀ pins s us, Inv X pins σ H s → Vals vs us → wpAny (model X.prog X.w) X.A (assignInOrder ((assignEach ts X.env).map (·.2)) us) (fun _ s' => ∃ σ' H', Inv X pins σ' H' s' ∧ Q σ' H') X.xe s
def wR (f : Value → Value → Sem Value) : R2 := fun x y H Q => ∀ pins s σ v u, Inv X pins σ H s → RelV x v → RelV y u → wpAny (model X.prog X.w) X.A (f v u) (EP X pins σ Q) X.xe s
def wU (f : Value → Sem Value) : V → Hp → VK → Prop := fun x H Q => ∀ pins s σ v, Inv X pins σ H s → RelV x v → wpAny (model X.prog X.w) X.A (f v) (EP X pins σ Q) X.xe s
def wC (f : Value) : List V → Hp → VK → Prop := fun xs H Q => ∀ pins s σ us, Inv X pins σ H s → Vals xs us → wpAny (model X.prog X.w) X.A (call f us) (EP X pins σ Q) X.xe s
def wM (id : String) : V → List V → Hp → VK → Prop := fun x xs H Q => ∀ pins s σ v us, Inv X pins σ H s → RelV x v → Vals xs us → wpAny (model X.prog X.w) X.A (call (.builtin id) (v :: us)) (EP X pins σ Q) X.xe s
def wIx : R2 := fun x y H Q => ∀ value slice pins s σ v u, Inv X pins σ H s → RelV x v → RelV y u → subscripted slice false v u = operate [v, u] (getItem v u) → wpAny (model X.prog X.w) X.A (subscriptTail value slice v u) (EP X pins σ Q) X.xe s
def wSet : TSet := fun o i v H Q => ∀ pins s σ ov iv u, Inv X pins σ H s → RelV o ov → RelV i iv → RelV v u → wpAny (model X.prog X.w) X.A (setItem ov iv u) (fun _ s' => ∃ H', Inv X pins σ H' s' ∧ Q H') X.xe s
def wO (e : Option Expr) : TO := fun σ H Q => ∀ (t : TO), PO X e t → t σ H Q
end
section
variable {X : Cx} {e : Expr} {σ : L2.St} {H : Hp}
theorem pe_w : PE X e (wE X e) := ⟨fun pins s _ _ _ I h => h pins s I⟩
theorem pt_w : PT X e (wT X e) := ⟨fun pins s _ _ _ I h => h pins s I⟩
theorem pw_w : PW X e (wW X e) := ⟨fun wh pins s _ _ _ I h => h wh pins s I⟩
theorem pa_w {es} : PA X es (wA X es) := ⟨fun pos pins s _ _ _ I h => h pos pins s I⟩
theorem ps_w {s} : PS X s (wS X s) := ⟨fun pins st _ _ _ I h => h pins st I⟩
theorem pss_w {s} : PSs X s (wSs X s) := ⟨fun pins st _ _ _ I h => h pins st I⟩
theorem pi_w {tg it} : PI X tg it (wI X tg it) := ⟨fun pins s _ _ _ I h => h pins s I⟩
theorem pg_w {tg} : PG X tg (wG X tg) := ⟨fun pins s _ _ _ u _ I r h => h pins s u I r⟩
theorem pgs_w {ts} : PGs X ts (wGs X ts) := ⟨fun pins s _ _ _ us _ I r h => h pins s us I r⟩
theorem opr_w {f} : OpR X f (wR X f) := fun pins s σ _ _ _ v u _ I r1 r2 h => h pins s σ v u I r1 r2
theorem unr_w {f} : UnR X f (wU X f) := fun pins s σ _ _ v _ I r1 h => h pins s σ v I r1
theorem cr_w {f} : CallR X f (wC X f) := fun pins s σ _ _ us _ I r h => h pins s σ us I r
theorem mr_w {id} : MtR X id (wM X id) := fun pins s σ _ _ _ v us _ I r1 r2 h => h pins s σ v us I r1 r2
theorem ix_w : IxR X (wIx X) := fun value slice pins s σ _ _ _ v u _ I r1 r2 h hs => h value slice pins s σ v u I r1 r2 hs
theorem set_w : PSet X (wSet X) := fun pins s σ _ _ _ _ ov iv u _ I r1 r2 r3 h => h pins s σ ov iv u I r1 r2 r3
theorem wE_of {t : TE} {Q : VK} (h : PE X e t) (q : t σ H Q) : wE X e σ H Q := fun pins s I => h.run pins s σ H Q I q
theorem wT_of {t : TT} {Q : Bool → Hp → Prop} (h : PT X e t) (q : t σ H Q) : wT X e σ H Q := fun pins s I => h.run pins s σ H Q I q
theorem wW_of {t : TT} {Q : Bool → Hp → Prop} (h : PW X e t) (q : t σ H Q) : wW X e σ H Q := fun wh pins s I => h.run wh pins s σ H Q I q
theorem wA_of {es} {t : TA} {Q : List V → Hp → Prop} (h : PA X es t) (q : t σ H Q) : wA X es σ H Q := fun pos pins s I => h.run pos pins s σ H Q I q
theorem wS_of {s} {t : TS} {D : Ends} (h : PS X s t) (q : t D σ H) : wS X s D σ H := fun pins st I => h.run pins st σ H D I q
theorem wSs_of {s} {t : TS} {D : Ends} (h : PSs X s t) (q : t D σ H) : wSs X s D σ H := fun pins st I => h.run pins st σ H D I q
theorem wI_of {tg it} {t : TI} {R} (h : PI X tg it t) (q : t σ H R) : wI X tg it σ H R := fun pins s I => h.run pins s σ H R I q
theorem wG_of {tg} {t : TG} {v} {Q} (h : PG X tg t) (q : t v σ H Q) : wG X tg v σ H Q := fun pins s u I r => h.run pins s σ H v u Q I r q
theorem wGs_of {ts} {t : TGs} {vs} {Q} (h : PGs X ts t) (q : t vs σ H Q) : wGs X ts vs σ H Q := fun pins s us I r => h.run pins s σ H vs us Q I r q
theorem wR_of {f} {r : R2} {x y} {Q : VK} (h : OpR X f r) (q : r x y H Q) : wR X f x y H Q := fun pins s σ v u I r1 r2 => h pins s σ H x y v u Q I r1 r2 q
theorem wU_of {f} {r : V → Hp → VK → Prop} {x} {Q : VK} (h : UnR X f r) (q : r x H Q) : wU X f x H Q := fun pins s σ v I r1 => h pins s σ H x v Q I r1 q
theorem wC_of {f} {r : List V → Hp → VK → Prop} {xs} {Q : VK} (h : CallR X f r) (q : r xs H Q) : wC X f xs H Q := fun pins s σ us I r1 => h pins s σ H xs us Q I r1 q
theorem wM_of {id} {r : V → List V → Hp → VK → Prop} {x xs} {Q : VK} (h : MtR X id r) (q : r x xs H Q) : wM X id x xs H Q := fun pins s σ v us I r1 r2 => h pins s σ H x xs v us Q I r1 r2 q
theorem wIx_of {r : R2} {x y} {Q : VK} (h : IxR X r) (q : r x y H Q) : wIx X x y H Q := fun value slice pins s σ v u I r1 r2 hs => h value slice pins s σ H x y v u Q I r1 r2 q hs
theorem wSet_of {t : TSet} {o i v} {Q} (h : PSet X t) (q : t o i v H Q) : wSet X o i v H Q := fun pins s σ ov iv u I r1 r2 r3 => h pins s σ H o i v ov iv u Q I r1 r2 r3 q
end

/-! ### what is shown of a piece -/
/-- what follows a value -/
abbrev Ct (K : PySem.W.Frag) (F : Hp) (ρ : Nat → Addr) (st : Sto) (H : Hp) (v : PV) (st' : Sto) (Q : VK) : Prop :=
  ∀ F' ρ' w H', Pst K F ρ st H F' ρ' st' H' → RelP K F' ρ' st'.nxt v w → Q w H'
abbrev Cts (K : PySem.W.Frag) (F : Hp) (ρ : Nat → Addr) (st : Sto) (H : Hp) (v : List PV) (st' : Sto) (Q : List V → Hp → Prop) : Prop :=
  ∀ F' ρ' w H', Pst K F ρ st H F' ρ' st' H' → RelPs K F' ρ' st'.nxt v w → Q w H'
def SndE (X : Cx) (e : Expr) (D : DE) : Prop := ∀ F ρ env st v st' σ H Q, Wld X.K F ρ st H → ERel X.K F ρ st.nxt env σ → D env st = some (v, st') → Ct X.K F ρ st H v st' Q → wE X e σ H Q
def SndA (X : Cx) (es : List Expr) (D : DA) : Prop := ∀ F ρ env st v st' σ H Q, Wld X.K F ρ st H → ERel X.K F ρ st.nxt env σ → D env st = some (v, st') → Cts X.K F ρ st H v st' Q → wA X es σ H Q
def SndT (X : Cx) (e : Expr) (D : DT) : Prop := ∀ F ρ env st b st' σ H Q, Wld X.K F ρ st H → ERel X.K F ρ st.nxt env σ → D env st = some (b, st') →
  (∀ F' ρ' H', Pst X.K F ρ st H F' ρ' st' H' → Q b H') → wT X e σ H Q
def SndW (X : Cx) (e : Expr) (D : DT) : Prop := ∀ F ρ env st b st' σ H Q, Wld X.K F ρ st H → ERel X.K F ρ st.nxt env σ → D env st = some (b, st') →
  (∀ F' ρ' H', Pst X.K F ρ st H F' ρ' st' H' → Q b H') → wW X e σ H Q
def SndO (X : Cx) (f : Value → Value → Sem Value) (D : PV → PV → M PV) : Prop := ∀ F ρ st x y w1 w2 v st' H Q, Wld X.K F ρ st H → RelP X.K F ρ st.nxt x w1 → RelP X.K F ρ st.nxt y w2 → D x y st = some (v, st') → Ct X.K F ρ st H v st' Q → wR X f w1 w2 H Q
def SndU (X : Cx) (f : Value → Sem Value) (D : PV → M PV) : Prop := ∀ F ρ st x w1 v st' H Q, Wld X.K F ρ st H → RelP X.K F ρ st.nxt x w1 → D x st = some (v, st') → Ct X.K F ρ st H v st' Q → wU X f w1 H Q
def SndC (X : Cx) (f : Value) (D : FSem) : Prop := ∀ F ρ st xs ws v st' H Q, Wld X.K F ρ st H → RelPs X.K F ρ st.nxt xs ws → D xs st = some (v, st') → Ct X.K F ρ st H v st' Q → wC X f ws H Q
def SndM (X : Cx) (id : String) (D : Nat → FSem) : Prop := ∀ F ρ st l xs ws v st' H Q, Wld X.K F ρ st H → RelPs X.K F ρ st.nxt xs ws → D l xs st = some (v, st') → Ct X.K F ρ st H v st' Q → wM X id (.ref (ρ l)) ws H Q
def SndIx (X : Cx) (D : PV → PV → M PV) : Prop := ∀ F ρ st x y w1 w2 v st' H Q, Wld X.K F ρ st H → RelP X.K F ρ st.nxt x w1 → RelP X.K F ρ st.nxt y w2 → D x y st = some (v, st') → Ct X.K F ρ st H v st' Q → wIx X w1 w2 H Q

/-! ### values -/
section
variable {X : Cx} {F : Hp} {ρ : Nat → Addr} {st st' : Sto} {H : Hp} {x v : PV} {w : V} {xs : List PV} {ws : List V} {Q : VK}
theorem Ct.here (W : Wld X.K F ρ st H) (c : Ct X.K F ρ st H v st Q) (r : RelP X.K F ρ st.nxt v w) : Q w H := c F ρ w H (Pst.refl W) r
theorem Ct.of {F1 : Hp} {ρ1 : Nat → Addr} {st1 : Sto} {H1 : Hp} (a : Pst X.K F ρ st H F1 ρ1 st1 H1) (c : Ct X.K F ρ st H v st' Q) : Ct X.K F1 ρ1 st1 H1 v st' Q := fun F' ρ' w H' p r => c F' ρ' w H' (a.trans p) r
theorem Ct.newV (W : Wld X.K F ρ st H) (c : Ct X.K F ρ st H v st Q) {p : Addr} {o : HO} (hp : H p = none) (r : RelP X.K (upd F p o) ρ st.nxt v (.ref p)) : Q (.ref p) (upd H p o) := c _ _ _ _ (W.new hp) r
theorem newF (W : Wld X.K F ρ st H) {p : Addr} {o : HO} (hp : H p = none) : Sub F (upd F p o) := (W.new hp).ex
theorem mkL_ok {m : Bool} (W : Wld X.K F ρ st H) (r : RelPs X.K F ρ st.nxt xs ws) (h : mkL m xs st = some (v, st')) (c : Ct X.K F ρ st H v st' Q) : ws.length ≤ sizeLine ∧ ∀ p, H p = none → Q (.ref p) (upd H p (.lst ws)) := by
  unfold mkL at h
  split at h
  · rename_i hz
    rw [r.length] at hz
    refine ⟨hz, fun p hp => ?_⟩
    split at h
    · split at h
      · rename_i hl
        cases h
        have a := W.alloc (c := .lst xs) (o := .lst ws) hp hl ⟨ws, rfl, r⟩
        refine c _ _ _ _ a ?_
        rw [RelP]
        exact ⟨by rw [Sto.alloc_nxt]; omega, by rw [if_pos rfl]⟩
      · cases h
    · cases h
      refine c.newV W hp ?_
      rw [RelP]
      exact ⟨p, ws, rfl, upd_same, r.mono (newF W hp) (fun _ _ => rfl) (Nat.le_refl _)⟩
  · cases h
theorem mkT_ok (W : Wld X.K F ρ st H) (r : RelPs X.K F ρ st.nxt xs ws) (h : mkT xs st = some (v, st')) (c : Ct X.K F ρ st H v st' Q) : ws.length ≤ sizeLine ∧ ∀ p, H p = none → Q (.ref p) (upd H p (.tup ws)) := by
  unfold mkT at h
  split at h
  · rename_i hz
    rw [r.length] at hz
    refine ⟨hz, fun p hp => ?_⟩
    cases h
    refine c.newV W hp ?_
    rw [RelP]
    exact ⟨p, ws, rfl, .inl (.inl upd_same), r.mono (newF W hp) (fun _ _ => rfl) (Nat.le_refl _)⟩
  · cases h
theorem tupV_ok (W : Wld X.K F ρ st H) (r : RelPs X.K F ρ st.nxt xs ws) (c : Ct X.K F ρ st H (.tup xs) st Q) {p : Addr} (hp : H p = none) : Q (.ref p) (upd H p (.tup ws)) := by
  refine c.newV W hp ?_
  rw [RelP]
  exact ⟨p, ws, rfl, .inl (.inl upd_same), r.mono (newF W hp) (fun _ _ => rfl) (Nat.le_refl _)⟩
theorem seq_ok (W : Wld X.K F ρ st H) (r : RelP X.K F ρ st.nxt x w) (h : seqOf st x = some xs) : ∃ a vs, w = .ref a ∧ (SqL X.K H a vs ∨ SqT X.K H a vs) ∧ RelPs X.K F ρ st.nxt xs vs := by
  unfold seqOf at h
  split at h
  · cases h
    rw [RelP] at r
    obtain ⟨a, vs, e, q, r⟩ := r
    exact ⟨a, vs, e, .inr (W.sub.sqT q), r⟩
  · cases h
    rw [RelP] at r
    obtain ⟨a, vs, e, q, r⟩ := r
    exact ⟨a, vs, e, .inl (.inl (.inl (W.sub _ _ q))), r⟩
  · cases h
    rw [RelP] at r
    obtain ⟨a, vs, e, q, r⟩ := r
    exact ⟨a, vs, e, .inl (W.sub.sqL q), r⟩
  · rename_i l
    rw [RelP] at r
    obtain ⟨q, rfl⟩ := r
    split at h
    · rename_i ys hy
      cases h
      obtain ⟨_, vs, e, r⟩ := W.cell l _ hy
      exact ⟨_, vs, rfl, .inl (.inl (.inl e)), r⟩
    · cases h
  · cases h
theorem lst_ok (W : Wld X.K F ρ st H) (r : RelP X.K F ρ st.nxt x w) (h : lstOf st x = some xs) : ∃ a vs, w = .ref a ∧ H a = some (.lst vs) ∧ RelPs X.K F ρ st.nxt xs vs := by
  unfold lstOf at h
  split at h
  · cases h
    rw [RelP] at r
    obtain ⟨a, vs, e, q, r⟩ := r
    exact ⟨a, vs, e, W.sub _ _ q, r⟩
  · rename_i l
    rw [RelP] at r
    obtain ⟨q, rfl⟩ := r
    split at h
    · rename_i ys hy
      cases h
      obtain ⟨_, vs, e, r⟩ := W.cell l _ hy
      exact ⟨_, vs, rfl, e, r⟩
    · cases h
  · cases h
theorem tup_ok (W : Wld X.K F ρ st H) (r : RelP X.K F ρ st.nxt (.tup xs) w) : ∃ a vs, w = .ref a ∧ SqT X.K H a vs ∧ RelPs X.K F ρ st.nxt xs vs := by
  rw [RelP] at r
  obtain ⟨a, vs, e, q, r⟩ := r
  exact ⟨a, vs, e, W.sub.sqT q, r⟩
theorem int_ok {K : PySem.W.Frag} {n : Nat} {i : Int} (r : RelP K F ρ n (.int i) w) : w = .int i := by rw [RelP] at r; exact r
theorem bl_ok {K : PySem.W.Frag} {n : Nat} {i : Bool} (r : RelP K F ρ n (.bl i) w) : w = .bl i := by rw [RelP] at r; exact r
theorem str_ok {K : PySem.W.Frag} {n : Nat} {i : Str} (r : RelP K F ρ n (.str i) w) : w = .str i := by rw [RelP] at r; exact r
theorem non_ok {K : PySem.W.Frag} {n : Nat} (r : RelP K F ρ n .non w) : w = .non := by rw [RelP] at r; exact r
theorem rel_int {K : PySem.W.Frag} {n : Nat} (i : Int) : RelP K F ρ n (.int i) (.int i) := by rw [RelP]
theorem rel_bl {K : PySem.W.Frag} {n : Nat} (i : Bool) : RelP K F ρ n (.bl i) (.bl i) := by rw [RelP]
theorem rel_str {K : PySem.W.Frag} {n : Nat} (i : Str) : RelP K F ρ n (.str i) (.str i) := by rw [RelP]
theorem rel_non {K : PySem.W.Frag} {n : Nat} : RelP K F ρ n .non .non := by rw [RelP]
end

/-! ### expressions -/
section
variable {X : Cx} {pos : Pos} {a b c e : Expr} {A B C : DE}
theorem snd_var {i : Nat} {x : Str} (hN : X.N[i]? = some x) (hv : Vis X.env.scope x) (hd : (x == ("__debug__" : Str)) = false) (hcd : (x == ("__classdict__" : Str)) = false) : SndE X (.Name x pos) (dVar i) := by
  intro F ρ env st v st' σ H Q W E h c
  unfold dVar at h
  split at h
  · rename_i u hu
    cases h
    obtain ⟨w, hw, r⟩ := E.2 i _ hu
    exact wE_of (pe_var hN hv hd hcd) ⟨w, hw, c.here W r⟩
  · cases h
theorem snd_frz {i : Nat} {x : Str} (hN : X.N[i]? = some x) (hv : Vis X.env.scope x) (hd : (x == ("__debug__" : Str)) = false) (hcd : (x == ("__classdict__" : Str)) = false) : SndE X (.Name x pos) (dFrz i) := by
  intro F ρ env st v st' σ H Q W E h c
  obtain ⟨u, st1, h1, h⟩ := mb_eq h
  unfold dVar at h1
  split at h1
  · rename_i u' hu
    cases h1
    obtain ⟨w, hw, r⟩ := E.2 i _ hu
    unfold frzL at h
    split at h
    · rename_i l
      split at h
      · rename_i cc hl
        cases h
        obtain ⟨F', P, r'⟩ := W.freeze hl
        rw [RelP] at r
        obtain ⟨_, rfl⟩ := r
        exact wE_of (pe_var hN hv hd hcd) ⟨_, hw, c _ _ _ _ P r'⟩
      · cases h
    · cases h
  · cases h1
theorem snd_int {i : Int} {j : Nat} : SndE X (.Constant (.int i) j pos) (dCst (.int i)) := by
  intro F ρ env st v st' σ H Q W E h c
  cases h
  exact wE_of pe_int (c.here W (rel_int _))
theorem snd_bl {i : Bool} {j : Nat} : SndE X (.Constant (.bool i) j pos) (dCst (.bl i)) := by
  intro F ρ env st v st' σ H Q W E h c
  cases h
  exact wE_of pe_bl (c.here W (rel_bl _))
theorem snd_str {i : Str} {j : Nat} : SndE X (.Constant (.str i) j pos) (dCst (.str i)) := by
  intro F ρ env st v st' σ H Q W E h c
  cases h
  exact wE_of pe_str (c.here W (rel_str _))
theorem snd_non {j : Nat} : SndE X (.Constant .none j pos) (dCst .non) := by
  intro F ρ env st v st' σ H Q W E h c
  cases h
  exact wE_of pe_non (c.here W rel_non)
/-- two in a row -/
theorem two (ha : SndE X a A) (hb : SndE X b B) {F : Hp} {ρ : Nat → Addr} {env : Env} {st : Sto} {σ : L2.St} {H : Hp} {v : PV} {st' : Sto} {f : PV → PV → M PV} {R : V → V → Hp → Prop}
    (W : Wld X.K F ρ st H) (E : ERel X.K F ρ st.nxt env σ) (h : dBin f A B env st = some (v, st'))
    (c : ∀ F' ρ' x y w1 w2 st2 H', Pst X.K F ρ st H F' ρ' st2 H' → RelP X.K F' ρ' st2.nxt x w1 → RelP X.K F' ρ' st2.nxt y w2 → f x y st2 = some (v, st') → R w1 w2 H') :
    wE X a σ H fun x H1 => wE X b σ H1 fun y H2 => R x y H2 := by
  obtain ⟨x, st1, h1, h⟩ := mb_eq h
  obtain ⟨y, st2, h2, h⟩ := mb_eq h
  refine ha F ρ env st x st1 σ H _ W E h1 fun F1 ρ1 w1 H1 p1 r1 => ?_
  refine hb F1 ρ1 env st1 y st2 σ H1 _ p1.wld (E.step p1) h2 fun F2 ρ2 w2 H2 p2 r2 => ?_
  exact c F2 ρ2 x y w1 w2 st2 H2 (p1.trans p2) (r1.step p2) r2 h
theorem snd_bin {op : Operator} {f : PV → PV → M PV} (ho : SndO X (binaryOp op) f) (ha : SndE X a A) (hb : SndE X b B) : SndE X (.BinOp a op b pos) (dBin f A B) := by
  intro F ρ env st v st' σ H Q W E h c
  refine wE_of (pe_op opr_w pe_w pe_w) ?_
  exact two ha hb W E h fun F' ρ' x y w1 w2 st2 H' p r1 r2 h => ho F' ρ' st2 x y w1 w2 v st' H' Q p.wld r1 r2 h (Ct.of p c)
theorem snd_cmp {op : CmpOp} {f : PV → PV → M PV} (ho : SndO X (compareOp op) f) (ha : SndE X a A) (hb : SndE X b B) (hm : behindInMarks op b = false) : SndE X (.Compare a [op] [b] pos) (dBin f A B) := by
  intro F ρ env st v st' σ H Q W E h c
  refine wE_of (pe_cmpR opr_w pe_w pe_w hm) ?_
  exact two ha hb W E h fun F' ρ' x y w1 w2 st2 H' p r1 r2 h => ho F' ρ' st2 x y w1 w2 v st' H' Q p.wld r1 r2 h (Ct.of p c)
theorem tst_cmp {op : CmpOp} {f : PV → PV → M PV} (ho : SndO X (compareOp op) f) (ha : SndE X a A) (hb : SndE X b B) (hm : behindInMarks op b = false) : SndT X (.Compare a [op] [b] pos) (tVal (dBin f A B)) := by
  intro F ρ env st v st' σ H Q W E h c
  obtain ⟨z, st3, h, h3⟩ := mb_eq h
  refine wT_of (pt_cmpR opr_w pe_w pe_w hm) ?_
  refine two ha hb W E h fun F' ρ' x y w1 w2 st2 H' p r1 r2 h => ho F' ρ' st2 x y w1 w2 z st3 H' _ p.wld r1 r2 h fun F3 ρ3 w H3 p3 r3 => ?_
  obtain ⟨rfl, rfl⟩ := asB_eq h3
  exact ⟨_, bl_ok r3, c F3 ρ3 H3 (p.trans p3)⟩
theorem snd_un {op : UnaryOp} {f : PV → M PV} (ho : SndU X (unaryOp op) f) (ha : SndE X a A) : SndE X (.UnaryOp op a pos) (dUn f A) := by
  intro F ρ env st v st' σ H Q W E h c
  obtain ⟨x, st1, h1, h⟩ := mb_eq h
  refine wE_of (pe_un unr_w pe_w) ?_
  exact ha F ρ env st x st1 σ H _ W E h1 fun F1 ρ1 w1 H1 p1 r1 => ho F1 ρ1 st1 x w1 v st' H1 Q p1.wld r1 h (Ct.of p1 c)
theorem isNon_ok {K : PySem.W.Frag} {F : Hp} {ρ : Nat → Addr} {n : Nat} {x : PV} {w : V} (r1 : RelP K F ρ n x w) : decide (w = .non) = isNonP x := by
  cases x with
  | non => rw [non_ok r1]; rfl
  | bl b => rw [bl_ok r1]; rfl
  | int b => rw [int_ok r1]; rfl
  | str b => rw [str_ok r1]; rfl
  | tup _ => rw [RelP] at r1; obtain ⟨_, _, rfl, _⟩ := r1; rfl
  | lst _ => rw [RelP] at r1; obtain ⟨_, _, rfl, _⟩ := r1; rfl
  | ro _ => rw [RelP] at r1; obtain ⟨_, _, rfl, _⟩ := r1; rfl
  | dct _ _ => rw [RelP] at r1; obtain ⟨_, _, _, _, rfl, _⟩ := r1; rfl
  | dki _ _ => rw [RelP] at r1; obtain ⟨_, _, rfl, _⟩ := r1; rfl
  | loc _ => rw [RelP] at r1; obtain ⟨_, rfl⟩ := r1; rfl
def isOp (neg : Bool) : CmpOp := if neg then .IsNot else .Is
theorem snd_isN {neg : Bool} {j : Nat} {p2 : Pos} (ha : SndE X a A) : SndE X (.Compare a [isOp neg] [.Constant .none j p2] pos) (dUn (cmpIsN neg) A) := by
  intro F ρ env st v st' σ H Q W E h c
  obtain ⟨x, st1, h1, h⟩ := mb_eq h
  cases h
  have fin : ∀ F1 ρ1 w1 H1, Pst X.K F ρ st H F1 ρ1 st' H1 → RelP X.K F1 ρ1 st'.nxt x w1 → Q (.bl (decide (w1 = .non) != neg)) H1 := fun F1 ρ1 w1 H1 p1 r1 => by
    rw [isNon_ok r1]
    exact (Ct.of p1 c).here p1.wld (rel_bl _)
  cases neg with
  | false =>
    refine wE_of (pe_cmp (pc_isN pe_w) rfl) ?_
    refine ha F ρ env st x st' σ H _ W E h1 fun F1 ρ1 w1 H1 p1 r1 => ?_
    have := fin F1 ρ1 w1 H1 p1 r1
    rw [Bool.bne_false] at this
    exact this
  | true =>
    refine wE_of (pe_cmp (pc_notN pe_w) rfl) ?_
    refine ha F ρ env st x st' σ H _ W E h1 fun F1 ρ1 w1 H1 p1 r1 => ?_
    have := fin F1 ρ1 w1 H1 p1 r1
    rw [Bool.bne_true] at this
    exact this
/-- an expression that gives True or False, as a test -/
theorem tst_val (he : ∀ whole, isTrue e X.env whole = (do let v ← whole; standAt e.pos; holding [v] (truthy v))) {D : DE} (h : SndE X e D) : SndT X e (tVal D) := by
  intro F ρ env st v st' σ H Q W E h0 c
  obtain ⟨z, st3, h0, h3⟩ := mb_eq h0
  refine wT_of (pt_val pe_w he) ?_
  refine h F ρ env st z st3 σ H _ W E h0 fun F3 ρ3 w H3 p3 r3 => ?_
  obtain ⟨rfl, rfl⟩ := asB_eq h3
  exact ⟨_, bl_ok r3, c F3 ρ3 H3 p3⟩
theorem tst_isN {neg : Bool} {j : Nat} {p2 : Pos} (ha : SndE X a A) : SndT X (.Compare a [isOp neg] [.Constant .none j p2] pos) (tVal (dUn (cmpIsN neg) A)) := by
  intro F ρ env st v st' σ H Q W E h0 c
  obtain ⟨z, st3, h0, h3⟩ := mb_eq h0
  obtain ⟨x, st1, h1, h⟩ := mb_eq h0
  cases h
  cases h3
  cases neg with
  | false =>
    refine wT_of (pt_cmp (pc_isN pe_w) rfl) ?_
    refine ha F ρ env st x st' σ H _ W E h1 fun F1 ρ1 w1 H1 p1 r1 => ⟨_, rfl, ?_⟩
    have := c F1 ρ1 H1 p1
    rw [Bool.bne_false] at this
    rw [isNon_ok r1]
    exact this
  | true =>
    refine wT_of (pt_cmp (pc_notN pe_w) rfl) ?_
    refine ha F ρ env st x st' σ H _ W E h1 fun F1 ρ1 w1 H1 p1 r1 => ⟨_, rfl, ?_⟩
    have := c F1 ρ1 H1 p1
    rw [Bool.bne_true] at this
    rw [isNon_ok r1]
    exact this

/-! and, or, not -/
theorem w_and1 {D : DT} (h : SndT X a D) : SndW X (.BoolOp .And [a] pos) D := fun F ρ env st v st' σ H Q W E h0 c => wW_of (pw_and1 pt_w) (h F ρ env st v st' σ H Q W E h0 c)
theorem w_or1 {D : DT} (h : SndT X a D) : SndW X (.BoolOp .Or [a] pos) D := fun F ρ env st v st' σ H Q W E h0 c => wW_of (pw_or1 pt_w) (h F ρ env st v st' σ H Q W E h0 c)
theorem w_and {D D' : DT} {rest : List Expr} (h : SndT X a D) (h' : SndW X (.BoolOp .And (b :: rest) pos) D') : SndW X (.BoolOp .And (a :: b :: rest) pos) (tAnd D D') := fun F ρ env st v st' σ H Q W E h0 c => by
  obtain ⟨x, st1, h1, h2⟩ := mb_eq h0
  refine wW_of (pw_and pt_w pw_w) (h F ρ env st x st1 σ H _ W E h1 fun F1 ρ1 H1 p1 => ?_)
  cases x with
  | true => exact h' F1 ρ1 env st1 v st' σ H1 Q p1.wld (E.step p1) h2 fun F2 ρ2 H2 p2 => c F2 ρ2 H2 (p1.trans p2)
  | false => cases h2; exact c F1 ρ1 H1 p1
theorem w_or {D D' : DT} {rest : List Expr} (h : SndT X a D) (h' : SndW X (.BoolOp .Or (b :: rest) pos) D') : SndW X (.BoolOp .Or (a :: b :: rest) pos) (tOr D D') := fun F ρ env st v st' σ H Q W E h0 c => by
  obtain ⟨x, st1, h1, h2⟩ := mb_eq h0
  refine wW_of (pw_or pt_w pw_w) (h F ρ env st x st1 σ H _ W E h1 fun F1 ρ1 H1 p1 => ?_)
  cases x with
  | false => exact h' F1 ρ1 env st1 v st' σ H1 Q p1.wld (E.step p1) h2 fun F2 ρ2 H2 p2 => c F2 ρ2 H2 (p1.trans p2)
  | true => cases h2; exact c F1 ρ1 H1 p1
theorem SndW.t {D : DT} (h : SndW X e D) : SndT X e D := fun F ρ env st v st' σ H Q W E h0 c => wT_of (PW.pt pw_w) (h F ρ env st v st' σ H Q W E h0 c)
theorem tst_not {D : DT} (h : SndT X a D) : SndT X (.UnaryOp .Not a pos) (tNot D) := fun F ρ env st v st' σ H Q W E h0 c => by
  obtain ⟨x, st1, h1, h2⟩ := mb_eq h0
  cases h2
  exact wT_of (pt_not pt_w) (h F ρ env st x st' σ H _ W E h1 fun F1 ρ1 H1 p1 => c F1 ρ1 H1 p1)
theorem snd_one {op : BoolOp} {D : DE} (h : SndE X a D) : SndE X (.BoolOp op [a] pos) D := fun F ρ env st v st' σ H Q W E h0 c => wE_of (pe_one pe_w) (h F ρ env st v st' σ H Q W E h0 c)
theorem snd_and {rest : List Expr} (h : SndE X a A) (h' : SndE X (.BoolOp .And (b :: rest) pos) B) : SndE X (.BoolOp .And (a :: b :: rest) pos) (dAnd A B) := fun F ρ env st v st' σ H Q W E h0 c => by
  obtain ⟨x, st1, h1, h2⟩ := mb_eq h0
  obtain ⟨k, st2, h3, h2⟩ := mb_eq h2
  obtain ⟨rfl, rfl⟩ := asB_eq h3
  refine wE_of (pe_and pe_w pe_w) (h F ρ env st _ st1 σ H _ W E h1 fun F1 ρ1 w1 H1 p1 r1 => ?_)
  refine ⟨k, bl_ok r1, ?_⟩
  cases k with
  | true => exact h' F1 ρ1 env st1 v st' σ H1 Q p1.wld (E.step p1) h2 (Ct.of p1 c)
  | false => cases h2; exact (Ct.of p1 c).here p1.wld (rel_bl _)
theorem snd_or {rest : List Expr} (h : SndE X a A) (h' : SndE X (.BoolOp .Or (b :: rest) pos) B) : SndE X (.BoolOp .Or (a :: b :: rest) pos) (dOr A B) := fun F ρ env st v st' σ H Q W E h0 c => by
  obtain ⟨x, st1, h1, h2⟩ := mb_eq h0
  obtain ⟨k, st2, h3, h2⟩ := mb_eq h2
  obtain ⟨rfl, rfl⟩ := asB_eq h3
  refine wE_of (pe_or pe_w pe_w) (h F ρ env st _ st1 σ H _ W E h1 fun F1 ρ1 w1 H1 p1 r1 => ?_)
  refine ⟨k, bl_ok r1, ?_⟩
  cases k with
  | false => exact h' F1 ρ1 env st1 v st' σ H1 Q p1.wld (E.step p1) h2 (Ct.of p1 c)
  | true => cases h2; exact (Ct.of p1 c).here p1.wld (rel_bl _)
theorem snd_notV (h : SndE X a A) : SndE X (.UnaryOp .Not a pos) (dUn opNot A) := fun F ρ env st v st' σ H Q W E h0 c => by
  obtain ⟨x, st1, h1, h2⟩ := mb_eq h0
  refine wE_of (pe_not pe_w) (h F ρ env st x st1 σ H _ W E h1 fun F1 ρ1 w1 H1 p1 r1 => ?_)
  unfold opNot at h2
  split at h2
  · cases h2
    exact ⟨_, bl_ok r1, (Ct.of p1 c).here p1.wld (rel_bl _)⟩
  · cases h2

/-! arguments, displays -/
theorem snd_anil : SndA X [] aNil := fun F ρ env st v st' σ H Q W E h c => by
  cases h
  exact wA_of pa_nil (c F ρ _ H (Pst.refl W) .nil)
theorem snd_acons {es : List Expr} {D : DA} (hs : starEach (e :: es) X.env = (false, eval e X.env) :: starEach es X.env) (he : SndE X e A) (hr : SndA X es D) : SndA X (e :: es) (aCons A D) := fun F ρ env st v st' σ H Q W E h c => by
  obtain ⟨x, st1, h1, h⟩ := mb_eq h
  obtain ⟨xs, st2, h2, h⟩ := mb_eq h
  cases h
  refine wA_of (pa_cons pe_w pa_w hs) (he F ρ env st x st1 σ H _ W E h1 fun F1 ρ1 w1 H1 p1 r1 => ?_)
  exact hr F1 ρ1 env st1 xs st' σ H1 _ p1.wld (E.step p1) h2 fun F2 ρ2 w2 H2 p2 r2 => c F2 ρ2 _ H2 (p1.trans p2) (.cons (r1.step p2) r2)
theorem snd_tup {es : List Expr} {D : DA} {k : Nat} (h : SndA X es D) : SndE X (.Tuple es k pos) (dTup D) := fun F ρ env st v st' σ H Q W E h0 c => by
  obtain ⟨xs, st1, h1, h2⟩ := mb_eq h0
  refine wE_of (pe_tup pa_w) (h F ρ env st xs st1 σ H _ W E h1 fun F1 ρ1 w1 H1 p1 r1 => ?_)
  exact mkT_ok p1.wld r1 h2 (Ct.of p1 c)
theorem snd_lst {es : List Expr} {D : DA} {m : Bool} (h : SndA X es D) : SndE X (.List es pos) (dLst m D) := fun F ρ env st v st' σ H Q W E h0 c => by
  obtain ⟨xs, st1, h1, h2⟩ := mb_eq h0
  refine wE_of (pe_lst pa_w) (h F ρ env st xs st1 σ H _ W E h1 fun F1 ρ1 w1 H1 p1 r1 => ?_)
  exact mkL_ok p1.wld r1 h2 (Ct.of p1 c)
theorem snd_ix (hix : PlainIx b) (ha : SndE X a A) (hb : SndE X b B) {f : PV → PV → M PV} (hf : SndIx X f) : SndE X (.Subscript a b pos) (dBin f A B) := by
  intro F ρ env st v st' σ H Q W E h c
  refine wE_of (pe_ix ix_w pe_w pe_w hix) ?_
  exact two ha hb W E h fun F' ρ' x y w1 w2 st2 H' p r1 r2 h => hf F' ρ' st2 x y w1 w2 v st' H' Q p.wld r1 r2 h (Ct.of p c)
end
end DL

/-! DLD: dicts whose keys are tuples. -/
namespace DL
open PySem PySem.Spec PyProof.Rows L2

/-! ### hashes of keys without texts are the same in every world -/
mutual
theorem hash_w {w w' : World} : ∀ {k : NestedKey}, noText k = true → k.hash w = k.hash w'
  | .none, _ => by rw [NestedKey.hash, NestedKey.hash]
  | .num _, _ => by rw [NestedKey.hash, NestedKey.hash]
  | .text _, h => by rw [noText] at h; cases h
  | .tup ks, h => by rw [noText] at h; rw [NestedKey.hash, NestedKey.hash, hashes_w h]
theorem hashes_w {w w' : World} : ∀ {ks : List NestedKey}, noTexts ks = true → NestedKey.hashes w ks = NestedKey.hashes w' ks
  | [], _ => by rw [NestedKey.hashes, NestedKey.hashes]
  | k :: r, h => by
    rw [noTexts, Bool.and_eq_true] at h
    rw [NestedKey.hashes, NestedKey.hashes, hash_w h.1, hashes_w h.2]
end
section
variable {X : Cx} {pins : List (Addr × Obj)} {σ : L2.St} {s : Shared} {F : Hp} {ρ : Nat → Addr} {n : Nat} {st st' : Sto} {H : Hp} {x v k : PV} {w : V} {ks vs : List PV} {kws vws : List V} {Q : VK}
/-- a dict lies somewhere -/
theorem dct_ok (W : Wld X.K F ρ st H) (r : RelP X.K F ρ st.nxt x w) (h : dctOf st x = some (ks, vs)) : ∃ a ob kws vws, w = .ref a ∧ H a = some (dO a ob) ∧ RelPs X.K F ρ st.nxt ks kws ∧ RelPs X.K F ρ st.nxt vs vws ∧ DObj a ks kws vws ob := by
  unfold dctOf at h
  split at h
  · cases h
    rw [RelP] at r
    obtain ⟨a, ob, kws, vws, e, q, r1, r2, d⟩ := r
    exact ⟨a, ob, kws, vws, e, W.sub _ _ q, r1, r2, d⟩
  · rename_i l
    rw [RelP] at r
    obtain ⟨q, rfl⟩ := r
    split at h
    · rename_i hl
      cases h
      obtain ⟨_, ob, kws, vws, e, r1, r2, d⟩ := W.cell l _ hl
      exact ⟨_, ob, kws, vws, rfl, e, r1, r2, d⟩
    · cases h
  · cases h
theorem dO_at {a : Addr} {ob : Obj} (I : Inv X pins σ H s) (h : H a = some (dO a ob)) : s.heap.get? a = some ob := (I.hok a _ h).1
theorem dO_ok {P : Program} {w : World} {H : Hp} {h : Heap} {a : Addr} {ob : Obj} (e : h.get? a = some ob) : ObjOk P w H h a (dO a ob) := ⟨e, ⟨_, e⟩, fun h1 h2 e1 k => k _ e1⟩
mutual
/-- a key's value is that key to the library -/
theorem nested_ok (I : Inv X pins σ H s) (sub : Sub F H) : ∀ {k : PV} {nk : NestedKey} {w : V} {u : Value}, NK k = some nk → RelP X.K F ρ n k w → RelV w u → NestedIs s.heap nk u
  | .int i, _, _, _, e, r, ru => by
    rw [NK] at e; cases e
    rw [RelP] at r; subst r
    obtain ⟨t, rfl⟩ := ru
    exact .int i t
  | .non, _, _, _, e, r, ru => by
    rw [NK] at e; cases e
    rw [RelP] at r; subst r
    cases ru
    exact .none
  | .str x, _, _, _, e, r, ru => by
    rw [NK] at e; cases e
    rw [RelP] at r; subst r
    obtain ⟨t, rfl⟩ := ru
    exact .text x t
  | .tup xs, _, _, _, e, r, ru => by
    rw [NK] at e
    cases q : NKs xs with
    | none => rw [q] at e; cases e
    | some nks =>
      rw [q] at e; cases e
      rw [RelP] at r
      obtain ⟨a, ws, rfl, t, r⟩ := r
      cases ru
      obtain ⟨its, rv, ⟨o, h1, h2, m, h3⟩, _⟩ := I.tuple (sub.sqT t)
      exact .tup h1 h2 h3 (nesteds_ok I sub q r rv)
  | .bl _, _, _, _, e, _, _ => by rw [NK] at e; cases e
  | .lst _, _, _, _, e, _, _ => by rw [NK] at e; cases e
  | .ro _, _, _, _, e, _, _ => by rw [NK] at e; cases e
  | .dct _ _, _, _, _, e, _, _ => by rw [NK] at e; cases e
  | .loc _, _, _, _, e, _, _ => by rw [NK] at e; cases e
theorem nesteds_ok (I : Inv X pins σ H s) (sub : Sub F H) : ∀ {xs : List PV} {nks : List NestedKey} {ws : List V} {us : List Value}, NKs xs = some nks → RelPs X.K F ρ n xs ws → Vals ws us → NestedAll s.heap nks us
  | [], _, _, _, e, r, ru => by
    rw [NKs] at e; cases e
    rw [r.inv0] at ru
    cases ru
    exact .nil
  | x :: xs, _, _, _, e, r, ru => by
    rw [NKs] at e
    cases q : NK x with
    | none => rw [q] at e; cases e
    | some nk =>
      cases q2 : NKs xs with
      | none => rw [q, q2] at e; cases e
      | some nks =>
        rw [q, q2] at e; cases e
        obtain ⟨w, ws, rfl, r1, r2⟩ := r.inv
        cases ru with
        | cons h t => exact .cons (nested_ok I sub q r1 h) (nesteds_ok I sub q2 r2 t)
end
/-- the entries as the library tells them -/
theorem ents_ok {P : Program} {wd : World} (I : Inv X pins σ H s) (sub : Sub F H) : ∀ {ks : List PV} {kws vws : List V} {es : List DictEntry}, EsR ks kws vws es → RelPs X.K F ρ n ks kws →
    ∃ xs : List (NestedKey × Addr × Value), es = xs.map (entryOfKey (nestedKind P wd)) ∧ (∀ x ∈ xs, (nestedKind P wd).is s.heap x.1 x.2.1) ∧ ks.map NK = xs.map (fun x => some x.1) ∧ Vals vws (xs.map (·.2.2)) ∧ xs.length = ks.length
  | [], _, _, _, h, _ => by
    obtain ⟨_, rfl, rfl⟩ := h
    exact ⟨[], rfl, fun x (z : x ∈ []) => (by cases z), rfl, Paired.nil, rfl⟩
  | k :: ks, _, _, _, h, r => by
    obtain ⟨a, as, b, bs, e, es, rfl, rfl, rfl, ⟨nk, h1, h2, h3⟩, h4, h5, h⟩ := h
    obtain ⟨w, ws, e0, r1, r2⟩ := r.inv
    cases e0
    obtain ⟨xs, x1, x2, x3, x4, x5⟩ := ents_ok I sub h r2
    obtain ⟨nk', g1, g2, g3⟩ := isTK_nk h2
    rw [h1] at g1; cases g1
    have hn := nested_ok I sub h1 r1 h4
    obtain ⟨c, hc⟩ : ∃ c, e.key = .ref c := by
      cases k with
      | tup ys =>
        rw [RelP] at r1
        obtain ⟨c, _, rfl, _⟩ := r1
        exact ⟨c, h4⟩
      | _ => cases h2
    rw [hc] at hn
    refine ⟨(nk, c, e.val) :: xs, ?_, fun x z => ?_, ?_, .cons h5 x4, by rw [List.length_cons, List.length_cons, x5]⟩
    · rw [List.map_cons, ← x1]
      congr 1
      show e = ⟨nk.hash wd, .ref c, e.val⟩
      rw [← h3 wd, ← hc]
    · rcases List.mem_cons.mp z with rfl | z
      · exact ⟨hn, g3⟩
      · exact x2 x z
    · rw [List.map_cons, List.map_cons, h1, x3]
theorem nodup_of_map {α β : Type} {f : α → β} : ∀ {l : List α}, (l.map f).Nodup → l.Nodup
  | [], _ => .nil
  | x :: l, h => by
    rw [List.map_cons, List.nodup_cons] at h
    rw [List.nodup_cons]
    exact ⟨fun z => h.1 (List.mem_map.mpr ⟨x, z, rfl⟩), nodup_of_map h.2⟩
theorem keyed_ok {a : Addr} {ob : Obj} (P : Program) (wd : World) (I : Inv X pins σ H s) (sub : Sub F H) (hH : H a = some (dO a ob)) (d : DObj a ks kws vws ob) (r : RelPs X.K F ρ n ks kws) :
    ∃ xs : List (NestedKey × Addr × Value), s.heap.DictOfH (nestedKind P wd) a xs ∧ ks.map NK = xs.map (fun x => some x.1) ∧ Vals vws (xs.map (·.2.2)) ∧ xs.length = ks.length := by
  obtain ⟨hx, ⟨es, ep, hd, he⟩, _, _, nd⟩ := d
  obtain ⟨xs, x1, x2, x3, x4, x5⟩ := ents_ok (P := P) (wd := wd) I sub he r
  refine ⟨xs, ⟨ob, es, ep, dO_at I hH, hx, hd, x1, x2, ?_⟩, x3, x4, x5⟩
  rw [x3] at nd
  have : xs.map (fun x => some x.1) = (xs.map (·.1)).map some := by rw [List.map_map]; rfl
  rw [this] at nd
  exact nodup_of_map nd
theorem keyEq_iff {a b : PV} {x y : NestedKey} (ha : NK a = some x) (hb : NK b = some y) : keyEq a b = decide (x = y) := by
  unfold keyEq
  rw [ha, hb]
/-- looking up -/
theorem look_ok {P : Program} {wd : World} {k : PV} {nk : NestedKey} (hk : NK k = some nk) : ∀ {ks vs : List PV} {vws : List V} {xs : List (NestedKey × Addr × Value)}, ks.map NK = xs.map (fun x => some x.1) → RelPs X.K F ρ n vs vws → Vals vws (xs.map (·.2.2)) → vs.length = ks.length →
    (dlook ks vs k = none ∧ atKey xs nk = none) ∨ ∃ v w p, dlook ks vs k = some v ∧ atKey xs nk = some p ∧ RelP X.K F ρ n v w ∧ RelV w p.2
  | [], vs, _, xs, h1, _, _, _ => by
    cases xs with
    | nil => exact .inl ⟨rfl, rfl⟩
    | cons _ _ => cases h1
  | k' :: ks, [], _, _, _, _, _, hl => by cases hl
  | k' :: ks, v :: vs, vws, [], h1, _, _, _ => by cases h1
  | k' :: ks, v :: vs, vws, x :: xs, h1, r, h2, hl => by
    rw [List.map_cons, List.map_cons] at h1
    injection h1 with h1 h3
    obtain ⟨w, ws, rfl, r1, r2⟩ := r.inv
    rw [List.map_cons] at h2
    cases h2 with
    | cons hv h2 =>
      by_cases e : x.1 = nk
      · refine .inr ⟨v, w, x.2, ?_, ?_, r1, hv⟩
        · show (if keyEq k' k then some v else dlook ks vs k) = some v
          rw [keyEq_iff h1 hk, decide_eq_true e, if_pos rfl]
        · simp [atKey, List.find?_cons, e]
      · have e1 : dlook (k' :: ks) (v :: vs) k = dlook ks vs k := by
          show (if keyEq k' k then some v else dlook ks vs k) = _
          rw [keyEq_iff h1 hk, decide_eq_false e, if_neg (by decide)]
        have e2 : atKey (x :: xs) nk = atKey xs nk := by simp [atKey, List.find?_cons, e]
        rw [e1, e2]
        exact look_ok (P := P) (wd := wd) hk h3 r2 h2 (by rw [List.length_cons, List.length_cons] at hl; omega)
theorem goodK_iff {ks : List PV} {k : PV} : goodK ks k = true ↔ (∀ x ∈ ks, isTK x = true) ∧ isTK k = true := by
  unfold goodK
  rw [Bool.and_eq_true, List.all_eq_true]
/-- a key that is asked for -/
theorem key_ok (P : Program) (wd : World) (I : Inv X pins σ H s) (sub : Sub F H) {u : Value} (h : isTK k = true) (r : RelP X.K F ρ n k w) (ru : RelV w u) : ∃ nk b, NK k = some nk ∧ u = .ref b ∧ (nestedKind P wd).is s.heap nk b := by
  obtain ⟨nk, g1, g2, g3⟩ := isTK_nk h
  have hn := nested_ok I sub g1 r ru
  cases k with
  | tup ys =>
    rw [RelP] at r
    obtain ⟨c, _, rfl, _⟩ := r
    cases ru
    exact ⟨nk, c, g1, rfl, hn, g3⟩
  | _ => cases h
theorem dobj_len {a : Addr} {ob : Obj} (d : DObj a ks kws vws ob) (r : RelPs X.K F ρ n ks kws) (r2 : RelPs X.K F ρ n vs vws) : vs.length = ks.length := by
  obtain ⟨_, ⟨es, ep, _, he⟩, _⟩ := d
  have : ∀ {ks : List PV} {kws vws : List V} {es : List DictEntry}, EsR ks kws vws es → vws.length = ks.length := by
    intro ks
    induction ks with
    | nil => intro _ _ _ h; obtain ⟨_, rfl, _⟩ := h; rfl
    | cons k ks ih =>
      intro _ _ _ h
      obtain ⟨a, as, b, bs, e, r, _, rfl, _, _, _, _, h⟩ := h
      rw [List.length_cons, List.length_cons, ih h]
  rw [r2.length, this he]
/-- d[k] -/
theorem ixD_ok (hu : X.A.units + 65 < cLine) {y u : PV} {w1 w2 : V} (W : Wld X.K F ρ st H) (r1 : RelP X.K F ρ st.nxt x w1) (r2 : RelP X.K F ρ st.nxt y w2) (hd : dctOf st x = some (ks, vs)) (hk : goodK ks y = true) (hl : dlook ks vs y = some u) (c : Ct X.K F ρ st H u st Q) : wIx X w1 w2 H Q := by
  obtain ⟨a, ob, kws, vws, rfl, hH, rk, rv, d⟩ := dct_ok W r1 hd
  intro value slice pins s σ ov uv I ro ru hs
  cases ro
  obtain ⟨xs, dk, h1, h2, _⟩ := keyed_ok X.prog X.w I W.sub hH d rk
  obtain ⟨nk, b, g1, rfl, g2⟩ := key_ok X.prog X.w I W.sub (goodK_iff.mp hk).2 r2 ru
  rcases look_ok (P := X.prog) (wd := X.w) g1 h1 rv h2 (dobj_len d rk rv) with ⟨e, _⟩ | ⟨v', w', p, e1, e2, rr, rp⟩
  · rw [e] at hl; cases hl
  · rw [e1] at hl; cases hl
    exact tail_any dk.typeIs slot_dict_getitem.lookup (wpAny_getItem_heap (knd := nestedKind X.prog X.w) (show X.A.in1.units + 8 < cLine from (by show X.A.units + 1 + 8 < cLine; omega)) g2 dk e2 ⟨w', H, I.tok _, rp, c.here W rr⟩) hs
/-- k in d, k not in d -/
theorem inD_ok (hu : X.A.units + 65 < cLine) (neg : Bool) {y : PV} {w1 w2 : V} (W : Wld X.K F ρ st H) (r1 : RelP X.K F ρ st.nxt y w1) (r2 : RelP X.K F ρ st.nxt x w2) (hd : dctOf st x = some (ks, vs)) (hk : goodK ks y = true) (c : Ct X.K F ρ st H (.bl ((dlook ks vs y).isSome != neg)) st Q) : wR X (compareOp (if neg then .NotIn else .In)) w1 w2 H Q := by
  obtain ⟨a, ob, kws, vws, rfl, hH, rk, rv, d⟩ := dct_ok W r2 hd
  intro pins s σ uv ov I ru ro
  cases ro
  obtain ⟨xs, dk, h1, h2, _⟩ := keyed_ok X.prog X.w I W.sub hH d rk
  obtain ⟨nk, b, g1, rfl, g2⟩ := key_ok X.prog X.w I W.sub (goodK_iff.mp hk).2 r1 ru
  have e : (dlook ks vs y).isSome = (atKey xs nk).isSome := by
    rcases look_ok (P := X.prog) (wd := X.w) g1 h1 rv h2 (dobj_len d rk rv) with ⟨e1, e2⟩ | ⟨_, _, _, e1, e2, _, _⟩
    · rw [e1, e2]; rfl
    · rw [e1, e2]; rfl
  have hr : (nestedKind X.prog X.w).room X.A.in1 := by show X.A.units + 1 + 8 < cLine; omega
  cases neg with
  | true =>
    refine wpAny_notIn_heap (knd := nestedKind X.prog X.w) hr g2 d.2.2.1 dk ⟨.bl (!(atKey xs nk).isSome), H, I.tok _, rfl, ?_⟩
    rw [← e]
    have := c.here W (rel_bl (K := X.K) (F := F) (ρ := ρ) (n := st.nxt) ((dlook ks vs y).isSome != true))
    cases hh : (dlook ks vs y).isSome <;> rw [hh] at this <;> exact this
  | false =>
    refine wpAny_in_heap (knd := nestedKind X.prog X.w) hr g2 d.2.2.1 dk ⟨.bl (atKey xs nk).isSome, H, I.tok _, rfl, ?_⟩
    rw [← e]
    have := c.here W (rel_bl (K := X.K) (F := F) (ρ := ρ) (n := st.nxt) ((dlook ks vs y).isSome != false))
    cases hh : (dlook ks vs y).isSome <;> rw [hh] at this <;> exact this
/-- len(d) -/
theorem lenD_ok {w1 : V} (W : Wld X.K F ρ st H) (r1 : RelP X.K F ρ st.nxt x w1) (hd : dctOf st x = some (ks, vs)) (c : Ct X.K F ρ st H (.int ks.length) st Q) : wC X (.builtin "len") [w1] H Q := by
  obtain ⟨a, ob, kws, vws, rfl, hH, rk, rv, d⟩ := dct_ok W r1 hd
  intro pins s σ us I r
  obtain ⟨u, rfl, ru⟩ := vals1 r
  cases ru
  obtain ⟨xs, dk, h1, h2, h3⟩ := keyed_ok X.prog X.w I W.sub hH d rk
  have hz := d.2.2.2.1
  rw [sizeLine_eq] at hz
  refine call_len_dictH (knd := nestedKind X.prog X.w) d.2.2.1 dk (by rw [h3]; omega) ⟨.int ks.length, H, I.tok _, ⟨_, by rw [h3]⟩, c.here W (rel_int _)⟩

/-! d[k] = v -/
theorem storedH_eq {xs : List (NestedKey × Addr × Value)} {x : NestedKey × Addr × Value} {k : NestedKey} {a : Addr} {v : Value} (hn : ((x :: xs).map (·.1)).Nodup) (e : x.1 = k) : storedH (x :: xs) k a v = (x.1, x.2.1, v) :: xs := by
  rw [List.map_cons, List.nodup_cons] at hn
  have h1 : atKey (x :: xs) k = some x.2 := by simp [atKey, List.find?_cons, e]
  rw [storedH_old h1, List.map_cons]
  congr 1
  · show (if x.1 = k then (x.1, x.2.1, v) else x) = _
    rw [if_pos e]
  · exact map_putAt_of_not_mem xs k v (e ▸ hn.1)
theorem storedH_ne {xs : List (NestedKey × Addr × Value)} {x : NestedKey × Addr × Value} {k : NestedKey} {a : Addr} {v : Value} (e : ¬ x.1 = k) : storedH (x :: xs) k a v = x :: storedH xs k a v := by
  have h1 : atKey (x :: xs) k = atKey xs k := by simp [atKey, List.find?_cons, e]
  unfold storedH
  rw [h1]
  split
  · rw [List.map_cons]
    congr 1
    show (if x.1 = k then (x.1, x.2.1, v) else x) = _
    rw [if_neg e]
  · rfl
theorem dput_len : ∀ {ks vs : List PV} {k v : PV}, vs.length = ks.length → (dput ks vs k v).1.length ≤ ks.length + 1 ∧ (dput ks vs k v).2.length = (dput ks vs k v).1.length
  | [], [], _, _, _ => ⟨Nat.le_refl _, rfl⟩
  | [], _ :: _, _, _, h => by cases h
  | _ :: _, [], _, _, h => by cases h
  | k' :: ks, v' :: vs, k, v, h => by
    have h : vs.length = ks.length := by rw [List.length_cons, List.length_cons] at h; omega
    obtain ⟨h1, h2⟩ := dput_len (k := k) (v := v) h
    show (if keyEq k' k then (k' :: ks, v :: vs) else (k' :: (dput ks vs k v).1, v' :: (dput ks vs k v).2)).1.length ≤ _ ∧ (if keyEq k' k then (k' :: ks, v :: vs) else (k' :: (dput ks vs k v).1, v' :: (dput ks vs k v).2)).2.length = (if keyEq k' k then (k' :: ks, v :: vs) else (k' :: (dput ks vs k v).1, v' :: (dput ks vs k v).2)).1.length
    cases keyEq k' k
    · rw [if_neg (by decide)]
      show (dput ks vs k v).1.length + 1 ≤ ks.length + 1 + 1 ∧ (dput ks vs k v).2.length + 1 = (dput ks vs k v).1.length + 1
      omega
    · rw [if_pos rfl]
      show ks.length + 1 ≤ ks.length + 1 + 1 ∧ vs.length + 1 = ks.length + 1
      omega
theorem dput_lb {m : Nat} : ∀ {ks vs : List PV} {k v : PV}, lbs m ks = true → lbs m vs = true → k.lb m = true → v.lb m = true → lbs m (dput ks vs k v).1 = true ∧ lbs m (dput ks vs k v).2 = true
  | [], vs, k, v, _, _, h3, h4 => by
    show lbs m [k] = true ∧ lbs m [v] = true
    rw [lbs, lbs, lbs, lbs, h3, h4]; exact ⟨rfl, rfl⟩
  | _ :: _, [], k, v, _, _, h3, h4 => by
    show lbs m [k] = true ∧ lbs m [v] = true
    rw [lbs, lbs, lbs, lbs, h3, h4]; exact ⟨rfl, rfl⟩
  | k' :: ks, v' :: vs, k, v, h1, h2, h3, h4 => by
    rw [lbs, Bool.and_eq_true] at h1 h2
    obtain ⟨g1, g2⟩ := dput_lb h1.2 h2.2 h3 h4
    show lbs m (if keyEq k' k then (k' :: ks, v :: vs) else (k' :: (dput ks vs k v).1, v' :: (dput ks vs k v).2)).1 = true ∧ lbs m (if keyEq k' k then (k' :: ks, v :: vs) else (k' :: (dput ks vs k v).1, v' :: (dput ks vs k v).2)).2 = true
    cases keyEq k' k
    · rw [if_neg (by decide)]
      show lbs m (_ :: _) = true ∧ lbs m (_ :: _) = true
      rw [lbs, lbs, h1.1, h2.1, g1, g2]; exact ⟨rfl, rfl⟩
    · rw [if_pos rfl]
      show lbs m (_ :: _) = true ∧ lbs m (_ :: _) = true
      rw [lbs, lbs, h1.1, h1.2, h2.2, h4]; exact ⟨rfl, rfl⟩
theorem put_ok {P : Program} {wd : World} {k v : PV} {nk : NestedKey} {b : Addr} {wv : V} {u : Value} (hk : isTK k = true) (hnk : NK k = some nk) (rk : RelP X.K F ρ n k (.ref b)) (rv : RelP X.K F ρ n v wv) (ru : RelV wv u) :
    ∀ {ks vs : List PV} {kws vws : List V} {es : List DictEntry} {xs : List (NestedKey × Addr × Value)}, EsR ks kws vws es → es = xs.map (entryOfKey (nestedKind P wd)) → ks.map NK = xs.map (fun x => some x.1) → (xs.map (·.1)).Nodup → RelPs X.K F ρ n ks kws → RelPs X.K F ρ n vs vws →
    ∃ kws' vws', EsR (dput ks vs k v).1 kws' vws' ((storedH xs nk b u).map (entryOfKey (nestedKind P wd))) ∧ (dput ks vs k v).1.map NK = (storedH xs nk b u).map (fun x => some x.1) ∧ RelPs X.K F ρ n (dput ks vs k v).1 kws' ∧ RelPs X.K F ρ n (dput ks vs k v).2 vws'
  | [], vs, _, _, _, xs, h, he, h1, nd, r1, r2 => by
    obtain ⟨rfl, rfl, rfl⟩ := h
    cases xs with
    | cons _ _ => cases h1
    | nil =>
      have e : dput [] vs k v = ([k], [v]) := by cases vs <;> rfl
      rw [e]
      obtain ⟨nk', g1, g2, g3⟩ := isTK_nk hk
      rw [hnk] at g1; cases g1
      exact ⟨[.ref b], [wv], ⟨_, _, _, _, _, _, rfl, rfl, rfl, ⟨nk, hnk, hk, fun w => hash_w g2⟩, rfl, ru, rfl, rfl, rfl⟩, by rw [List.map_cons, hnk]; rfl, .cons rk .nil, .cons rv .nil⟩
  | k' :: ks, vs, _, _, _, [], h, he, h1, nd, r1, r2 => by cases h1
  | k' :: ks, [], _, _, _, x :: xs, h, he, h1, nd, r1, r2 => by
    obtain ⟨a, as, b', bs, e, es, _, rfl, _, _⟩ := h
    exact absurd r2.inv0 (by simp)
  | k' :: ks, v' :: vs, _, _, _, x :: xs, h, he, h1, nd, r1, r2 => by
    obtain ⟨a, as, b', bs, e, es, rfl, rfl, rfl, hx, h4, h5, h⟩ := h
    obtain ⟨w, ws, e0, q1, q2⟩ := r1.inv
    cases e0
    obtain ⟨w2, ws2, e0, q3, q4⟩ := r2.inv
    cases e0
    rw [List.map_cons, List.map_cons] at h1
    injection h1 with h1 h3
    rw [List.map_cons] at he
    injection he with he he2
    by_cases ek : x.1 = nk
    · have e1 : dput (k' :: ks) (v' :: vs) k v = (k' :: ks, v :: vs) := by
        show (if keyEq k' k then (k' :: ks, v :: vs) else _) = _
        rw [keyEq_iff h1 hnk, decide_eq_true ek, if_pos rfl]
      rw [e1, storedH_eq nd ek]
      refine ⟨a :: as, wv :: bs, ⟨_, _, _, _, _, _, rfl, rfl, rfl, ?_, ?_, ru, ?_⟩, ?_, .cons q1 q2, .cons rv q4⟩
      · obtain ⟨nk', y1, y2, y3⟩ := hx
        refine ⟨nk', y1, y2, fun w => ?_⟩
        rw [← y3 w, he]; rfl
      · rw [he] at h4; exact h4
      · rw [← he2]; exact h
      · rw [List.map_cons, List.map_cons, h1, h3]
    · have e1 : dput (k' :: ks) (v' :: vs) k v = (k' :: (dput ks vs k v).1, v' :: (dput ks vs k v).2) := by
        show (if keyEq k' k then (k' :: ks, v :: vs) else _) = _
        rw [keyEq_iff h1 hnk, decide_eq_false ek, if_neg (by decide)]
      rw [e1, storedH_ne ek]
      rw [List.map_cons, List.nodup_cons] at nd
      obtain ⟨kws', vws', z1, z2, z3, z4⟩ := put_ok hk hnk rk rv ru h he2 h3 nd.2 q2 q4
      refine ⟨a :: kws', b' :: vws', ⟨_, _, _, _, _, _, rfl, rfl, by rw [List.map_cons, ← he], hx, h4, h5, z1⟩, ?_, .cons q1 z3, .cons q3 z4⟩
      rw [List.map_cons, List.map_cons, h1, z2]
theorem nodup_some {α : Type} {l : List α} (h : l.Nodup) : (l.map some).Nodup := by
  rw [List.nodup_iff_pairwise_ne] at h ⊢
  rw [List.pairwise_map]
  exact h.imp fun {a b} q e => q (Option.some.inj e)
theorem setD_ok (hu : X.A.units + 65 < cLine) {l : Nat} {y : PV} {w2 w3 : V} {Qs : Hp → Prop} (W : Wld X.K F ρ st H) {tt : Nat} (hl : st.cs l = some (.dct ks vs tt)) (r2 : RelP X.K F ρ st.nxt y w2) (r3 : RelP X.K F ρ st.nxt v w3) (hk : goodK ks y = true) (hlb : v.lb st.nxt = true) (hz : ks.length < sizeLine)
    (c : ∀ F' ρ' H', Pst X.K F ρ st H F' ρ' (st.set l (.dct (dput ks vs y v).1 (dput ks vs y v).2 (tt + 1))) H' → Qs H') : wSet X (.ref (ρ l)) w2 w3 H Qs := by
  obtain ⟨fl, ob, kws, vws, hH, rk, rv, d⟩ := W.cell l _ hl
  intro pins s σ ov uv zv I ro ru rz
  cases ro
  obtain ⟨hx, ⟨es, ep, hdat, he⟩, hs, hsz, nd⟩ := id d
  obtain ⟨xs, x1, x2, x3, x4, x5⟩ := ents_ok (P := X.prog) (wd := X.w) I W.sub he rk
  have ndx : (xs.map (·.1)).Nodup := by
    rw [x3] at nd
    have : xs.map (fun x => some x.1) = (xs.map (·.1)).map some := by rw [List.map_map]; rfl
    rw [this] at nd
    exact nodup_of_map nd
  have dk : s.heap.DictOfH (nestedKind X.prog X.w) (ρ l) xs := ⟨ob, es, ep, dO_at I hH, hx, hdat, x1, x2, ndx⟩
  obtain ⟨nk, b, g1, rfl, g2⟩ := key_ok X.prog X.w I W.sub (goodK_iff.mp hk).2 r2 ru
  have r2' : RelP X.K F ρ st.nxt y (.ref b) := by
    have hy := (goodK_iff.mp hk).2
    cases y with
    | tup ys =>
      rw [RelP] at r2 ⊢
      obtain ⟨c', vs', rfl, t, r⟩ := r2
      cases ru
      exact ⟨_, vs', rfl, t, r⟩
    | _ => cases hy
  have hlen : vs.length = ks.length := dobj_len d rk rv
  refine wpAny_setItem_heap (knd := nestedKind X.prog X.w) (show X.A.in1.units + 8 < cLine from (by show X.A.units + 1 + 8 < cLine; omega)) g2 dk (fun h' dk' hs' => ?_) (hsz := by rw [x5]; omega)
  obtain ⟨ob', es', ep', hg', hx', hd', he', his', nd'⟩ := dk'
  obtain ⟨kws', vws', z1, z2, z3, z4⟩ := put_ok (P := X.prog) (wd := X.w) (b := b) (u := zv) (goodK_iff.mp hk).2 g1 r2' r3 rz he x1 x3 ndx rk rv
  have dn : DObj (ρ l) (dput ks vs y v).1 kws' vws' ob' := by
    refine ⟨hx', ⟨es', ep', hd', by rw [he']; exact z1⟩, hs, Nat.le_trans (dput_len hlen).1 hz, ?_⟩
    rw [z2]
    have : (storedH xs nk b zv).map (fun x => some x.1) = ((storedH xs nk b zv).map (·.1)).map some := by rw [List.map_map]; rfl
    rw [this]
    exact nodup_some nd'
  have lbk : (Cell.dct (dput ks vs y v).1 (dput ks vs y v).2 (tt + 1)).lb st.nxt = true := by
    have hw := st.wc l _ hl
    have hw : (lbs st.nxt ks && lbs st.nxt vs) = true := hw
    rw [Bool.and_eq_true] at hw
    have hyl : y.lb st.nxt = true := PV.lb_mono (Nat.zero_le _) (nk_lb g1)
    obtain ⟨q1, q2⟩ := dput_lb (k := y) (v := v) hw.1 hw.2 hyl hlb
    show (lbs st.nxt _ && lbs st.nxt _) = true
    rw [q1, q2]; rfl
  have p := W.set hl tick_dct lbk (o := dO (ρ l) ob') ⟨ob', kws', vws', rfl, z3, z4, dn⟩
  refine ⟨upd H (ρ l) (dO (ρ l) ob'), ?_, c _ _ _ p⟩
  exact d_write I (by rw [hH]; exact True.intro) hs' ⟨_, hg'⟩ (dO_ok hg')
/-- {} -/
theorem newD_ok {m : Bool} (W : Wld X.K F ρ st H) (h : mkD m [] [] st = some (v, st')) (c : Ct X.K F ρ st H v st' Q) (I : Inv X pins σ H s) : ∃ H', Inv X pins σ H' { s with heap := s.heap.push { cls := .type "dict", data := .dict #[] } } ∧ Q (.ref s.heap.objs.size) H' := by
  have hp : H s.heap.objs.size = none := I.hok.fresh (Nat.le_refl _)
  have hs : (s.heap.objs.size == sysModules) = false := by
    exact beq_eq_false_iff_ne.mpr (Nat.ne_of_gt I.big)
  have dn : DObj s.heap.objs.size [] [] [] { cls := .type "dict", data := .dict #[] } := ⟨⟨rfl, rfl, rfl⟩, ⟨#[], 0, rfl, rfl, rfl, rfl⟩, hs, Nat.zero_le _, .nil⟩
  refine ⟨upd H s.heap.objs.size (dO s.heap.objs.size { cls := .type "dict", data := .dict #[] }), I.laid (t' := s.toks) (fun _ _ q => Heap.get?_push_of_some _ q) (Nat.le_refl _) (dO_ok (Heap.get?_push_size _ rfl)), ?_⟩
  unfold mkD at h
  split at h
  · split at h
    · cases h
      refine c _ _ _ _ (W.alloc (c := .dct [] [] 0) (o := dO s.heap.objs.size { cls := .type "dict", data := .dict #[] }) hp (by rw [Cell.lb, lbs]; rfl) ⟨_, [], [], rfl, .nil, .nil, dn⟩) ?_
      rw [RelP]
      exact ⟨by rw [Sto.alloc_nxt]; omega, by rw [if_pos rfl]⟩
    · cases h
  · cases h
    refine c _ _ _ _ (W.new (o := dO s.heap.objs.size { cls := .type "dict", data := .dict #[] }) hp) ?_
    rw [RelP]
    exact ⟨_, _, [], [], rfl, upd_same, .nil, .nil, dn⟩
theorem snd_dct0 {m : Bool} {pos : Pos} : SndE X (.Dict [] [] pos) (dDct0 m) := by
  intro F ρ env st v st' σ H Q W E h c
  intro pins s I
  refine wpAny_Dict_empty ?_
  obtain ⟨H', I', q⟩ := newD_ok W h c I
  exact ⟨.ref s.heap.objs.size, H', I', rfl, q⟩
/-- d.get(k, v) -/
theorem snd_get2 {o e f : Expr} {O K' V' : DE} {apos cpos : Pos} (hu : X.A.units + 65 < cLine) (ho : SndE X o O) (he : SndE X e K') (hf : SndE X f V') (m : M2 X o "get" apos e f cpos) : SndE X (.Call (.Attribute o "get" apos) [e, f] [] cpos) (dGet2 O K' V') := by
  intro F ρ env st v st' σ H Q W E h c
  unfold dGet2 at h
  obtain ⟨x, st1, h1, h⟩ := mb_eq h
  cases hd : dctOf st1 x with
  | none => rw [hd] at h; cases h
  | some kv =>
    rw [hd] at h
    obtain ⟨y, st2, h2, h⟩ := mb_eq h
    obtain ⟨z, st3, h3, h⟩ := mb_eq h
    cases hd3 : dctOf st3 x with
    | none => rw [hd3] at h; cases h
    | some kv3 =>
      obtain ⟨ks3, vs3⟩ := kv3
      rw [hd3] at h
      have h : (if goodK ks3 y then some ((dlook ks3 vs3 y).getD z, st3) else none) = some (v, st') := h
      split at h
      · rename_i hg
        cases h
        intro pins s I
        refine wpAny_Call_method m.base m.few m.line PySem.F.plainAttrs_dict PySem.F.slot_dict_get PySem.F.type_dict_get ?_
        have q1 := ho F ρ env st x st1 σ H (fun w1 H1 => ∃ F1 ρ1, Pst X.K F ρ st H F1 ρ1 st1 H1 ∧ RelP X.K F1 ρ1 st1.nxt x w1) W E h1 fun F1 ρ1 w1 H1 p1 r1 => ⟨F1, ρ1, p1, r1⟩
        refine thn (q1 pins s I) fun u s1 ⟨w1, H1, I1, rx, F1, ρ1, p1, r1⟩ => ?_
        obtain ⟨a, ob, kws, vws, rfl, hH, rk, rv, d⟩ := dct_ok p1.wld r1 (ks := kv.1) (vs := kv.2) hd
        obtain rfl : u = Value.ref a := rx
        have hg1 := dO_at I1 hH
        refine ⟨⟨ob, hg1, d.1.1⟩, fun b q => by cases q; exact ⟨ob, hg1, d.1.2.1⟩, ?_⟩
        rw [m.trees]
        have q2 := he F1 ρ1 env st1 y st2 σ H1 (fun w2 H2 => ∃ F2 ρ2, Pst X.K F1 ρ1 st1 H1 F2 ρ2 st2 H2 ∧ RelP X.K F2 ρ2 st2.nxt y w2) p1.wld (E.step p1) h2 fun F2 ρ2 w2 H2 p2 r2 => ⟨F2, ρ2, p2, r2⟩
        refine Calls.callWith_builtin rfl (Calls.evalArgs_plain (Calls.spliced_cons (thn (q2 pins s1 I1) fun iv s2 ⟨w2, H2, I2, ry, F2, ρ2, p2, r2⟩ => ?_)))
        have q3 := hf F2 ρ2 env st2 z st' σ H2 (fun w3 H3 => ∃ F3 ρ3, Pst X.K F2 ρ2 st2 H2 F3 ρ3 st' H3 ∧ RelP X.K F3 ρ3 st'.nxt z w3) p2.wld ((E.step p1).step p2) h3 fun F3 ρ3 w3 H3 p3 r3 => ⟨F3, ρ3, p3, r3⟩
        refine Calls.spliced_cons (thn (q3 pins s2 I2) fun fv s3 ⟨w3, H3, I3, rz, F3, ρ3, p3, r3⟩ => Calls.spliced_nil ?_)
        have rx3 := (r1.step p2).step p3
        obtain ⟨a3, ob3, kws3, vws3, e3, hH3, rk3, rv3, d3⟩ := dct_ok p3.wld rx3 hd3
        cases e3
        obtain ⟨xs, dk, g1, g2, _⟩ := keyed_ok X.prog X.w I3 p3.wld.sub hH3 d3 rk3
        obtain ⟨nk, b, k1, rfl, k2⟩ := key_ok X.prog X.w I3 p3.wld.sub (goodK_iff.mp hg).2 (r2.step p3) ry
        have P3 := (p1.trans p2).trans p3
        refine call_meetsIn PySem.F.slot_dict_get dk.typeIs PySem.F.entry_dict_get (PySem.F.args_dict_get_3 _ _ _) (meetsH_dict_get_default (nestedKind X.prog X.w) a b d3.2.2.1 fv) ⟨by show X.A.units + 1 + 8 < cLine; omega, nk, xs, k2, dk, ?_⟩
        rcases look_ok (P := X.prog) (wd := X.w) k1 g1 rv3 g2 (dobj_len d3 rk3 rv3) with ⟨e1, e2⟩ | ⟨v', w', p, e1, e2, rr, rp⟩
        · rw [e2]
          rw [e1] at c
          exact ⟨w3, H3, I3.tok _, rz, c F3 ρ3 w3 H3 P3 r3⟩
        · rw [e2]
          rw [e1] at c
          exact ⟨w', H3, I3.tok _, rp, c F3 ρ3 w' H3 P3 rr⟩
      · cases h
end
/-! dicts whose keys are ints -/
theorem kvI_len : ∀ {ks : List KK} {vws : List V}, ks.length = vws.length → (kvI ks vws).length = ks.length
  | [], _, _ => by rw [kvI] <;> first | rfl | (intro _ _ _ _ z; cases z)
  | k :: ks, [], h => by cases h
  | k :: ks, w :: vws, h => by rw [kvI, List.length_cons, List.length_cons, kvI_len (by simpa using h)]
theorem kvI_any {k : KK} : ∀ {ks : List KK} {vws : List V}, ks.length = vws.length → (kvI ks vws).any (fun kv => decide (kv.1 = k)) = decide (k ∈ ks)
  | [], [], _ => by rw [kvI] <;> first | rfl | (intro _ _ _ _ z; cases z)
  | [], _ :: _, h => by cases h
  | _ :: _, [], h => by cases h
  | k' :: ks, w :: vws, h => by
    rw [kvI, List.any_cons, kvI_any (by simpa using h)]
    by_cases e : k' = k
    · subst e; simp
    · have e1 : ¬ k' = k := e
      have e2 : ¬ k = k' := fun z => e z.symm
      simp [e1, e2]
theorem kvI_map {k : KK} {w : V} : ∀ {ks : List KK} {vws : List V}, (kvI ks vws).map (fun kv => if kv.1 = k then (kv.1, w) else kv) = kvI ks (List.zipWith (fun a b => if a = k then w else b) ks vws)
  | [], vws => by simp [kvI]
  | _ :: _, [] => by simp [kvI]
  | k' :: ks, u :: vws => by
    rw [kvI, List.map_cons, kvI_map, List.zipWith_cons_cons, kvI]
    by_cases e : k' = k
    · subst e; rw [if_pos rfl, if_pos rfl]
    · rw [if_neg e, if_neg e]
theorem kvI_append {k : KK} {w : V} : ∀ {ks : List KK} {vws : List V}, ks.length = vws.length → kvI (ks ++ [k]) (vws ++ [w]) = kvI ks vws ++ [(k, w)]
  | [], [], _ => by simp [kvI]
  | [], _ :: _, h => by cases h
  | _ :: _, [], h => by cases h
  | k' :: ks, u :: vws, h => by
    rw [List.cons_append, List.cons_append, kvI, kvI, kvI_append (by simpa using h), List.cons_append]
theorem RelPs.zipIf {K : PySem.W.Frag} {F : Hp} {ρ : Nat → Addr} {n : Nat} {k : KK} {v : PV} {w : V} (r : RelP K F ρ n v w) : ∀ {ks : List KK} {vs : List PV} {vws : List V}, RelPs K F ρ n vs vws → RelPs K F ρ n (List.zipWith (fun a b => if a = k then v else b) ks vs) (List.zipWith (fun a b => if a = k then w else b) ks vws)
  | [], _, _, _ => .nil
  | _ :: _, [], _, h => by rw [h.inv0]; exact .nil
  | a :: ks, x :: vs, _, h => by
    obtain ⟨u, us, rfl, h1, h2⟩ := h.inv
    rw [List.zipWith_cons_cons, List.zipWith_cons_cons]
    refine .cons ?_ (RelPs.zipIf r h2)
    by_cases e : a = k
    · rw [if_pos e, if_pos e]; exact r
    · rw [if_neg e, if_neg e]; exact h1
theorem lbs_zipIf {m : Nat} {k : KK} {v : PV} (hv : v.lb m = true) : ∀ {ks : List KK} {vs : List PV}, lbs m vs = true → lbs m (List.zipWith (fun a b => if a = k then v else b) ks vs) = true
  | [], _, _ => by rw [List.zipWith_nil_left, lbs]
  | _ :: _, [], _ => by rw [List.zipWith_nil_right, lbs]
  | a :: ks, x :: vs, h => by
    rw [lbs, Bool.and_eq_true] at h
    rw [List.zipWith_cons_cons, lbs, lbs_zipIf hv h.2]
    by_cases e : a = k
    · rw [if_pos e, hv]; rfl
    · rw [if_neg e, h.1]; rfl
theorem key_w {K : PySem.W.Frag} {F : Hp} {ρ : Nat → Addr} {n : Nat} {y : PV} {w : V} {i : KK} (h : keyP y = some i) (r : RelP K F ρ n y w) : w = kV i := by
  unfold keyP at h
  split at h
  · cases h; exact int_ok r
  · cases h; exact str_ok r
  · cases h
section
variable {X : Cx} {F : Hp} {ρ : Nat → Addr} {n : Nat} {st st' : Sto} {H : Hp} {x v : PV} {w : V} {ks : List KK} {vs : List PV} {vws : List V} {Q : VK}
theorem dki_ok (W : Wld X.K F ρ st H) (r : RelP X.K F ρ st.nxt x w) (h : dkiOf st x = some (ks, vs)) : ∃ a vws, w = .ref a ∧ H a = some (.dK (kvI ks vws)) ∧ ks.length = vs.length ∧ RelPs X.K F ρ st.nxt vs vws := by
  unfold dkiOf at h
  split at h
  · cases h
    rw [RelP] at r
    obtain ⟨a, vws, e, q, l, r⟩ := r
    exact ⟨a, vws, e, W.sub _ _ q, l, r⟩
  · rename_i l
    rw [RelP] at r
    obtain ⟨q, rfl⟩ := r
    split at h
    · rename_i hl
      cases h
      obtain ⟨_, vws, e, l, r⟩ := W.cell l _ hl
      exact ⟨_, vws, rfl, e, l, r⟩
    · cases h
  · cases h
theorem lookI_ok {K : PySem.W.Frag} {i : KK} : ∀ {ks : List KK} {vs : List PV} {vws : List V}, ks.length = vs.length → RelPs K F ρ n vs vws →
    (ilook ks vs i = none ∧ valV (kvI ks vws) i = none) ∨ ∃ v w, ilook ks vs i = some v ∧ valV (kvI ks vws) i = some w ∧ RelP K F ρ n v w
  | [], _, _, _, _ => .inl ⟨by unfold ilook; rfl, by rw [kvI] <;> first | rfl | (intro _ _ _ _ z; cases z)⟩
  | _ :: _, [], _, h, _ => by cases h
  | k :: ks, x :: vs, _, h, r => by
    obtain ⟨u, us, rfl, h1, h2⟩ := r.inv
    rw [ilook, kvI]
    by_cases e : k = i
    · subst e
      rw [if_pos rfl, valV_pos rfl]
      exact .inr ⟨x, u, rfl, rfl, h1⟩
    · rw [if_neg e, valV_neg e]
      exact lookI_ok (by simpa using h) h2
theorem ixI_ok (hu : X.A.units + 65 < cLine) {i : KK} {u : PV} {w1 w2 : V} (W : Wld X.K F ρ st H) (r1 : RelP X.K F ρ st.nxt x w1) {y : PV} (r2 : RelP X.K F ρ st.nxt y w2) (hky : keyP y = some i) (hd : dkiOf st x = some (ks, vs)) (hl : ilook ks vs i = some u) (c : Ct X.K F ρ st H u st Q) : wIx X w1 w2 H Q := by
  obtain ⟨a, vws, rfl, hH, l, rv⟩ := dki_ok W r1 hd
  cases key_w hky r2
  intro value slice pins s σ ov uv I ro ru hs
  cases ro
  rcases lookI_ok (i := i) l rv with ⟨e, _⟩ | ⟨v', w', e1, e2, rr⟩
  · rw [e] at hl; cases hl
  · rw [e1] at hl; cases hl
    have g : DGet H a (kV i) (some w') := .inl ⟨_, i, .inl hH, rfl, e2.symm⟩
    exact tail_any (dict_typeIs I g) slot_dict_getitem.lookup (d_getItem (show X.A.units + 1 < cLine by omega) I g ru fun w'' s' I' rw' => ⟨w', H, I', rw', c.here W rr⟩) hs
theorem inI_ok (hu : X.A.units + 65 < cLine) (neg : Bool) {i : KK} {w1 w2 : V} (W : Wld X.K F ρ st H) {y : PV} (r1 : RelP X.K F ρ st.nxt y w1) (hky : keyP y = some i) (r2 : RelP X.K F ρ st.nxt x w2) (hd : dkiOf st x = some (ks, vs)) (c : Ct X.K F ρ st H (.bl ((ilook ks vs i).isSome != neg)) st Q) : wR X (compareOp (if neg then .NotIn else .In)) w1 w2 H Q := by
  obtain ⟨a, vws, rfl, hH, l, rv⟩ := dki_ok W r2 hd
  cases key_w hky r1
  intro pins s σ uv ov I ru ro
  cases ro
  have g : DGet H a (kV i) (valV (kvI ks vws) i) := .inl ⟨_, i, .inl hH, rfl, rfl⟩
  have e : (ilook ks vs i).isSome = (valV (kvI ks vws) i).isSome := by
    rcases lookI_ok (i := i) l rv with ⟨e1, e2⟩ | ⟨_, _, e1, e2, _⟩
    · rw [e1, e2]; rfl
    · rw [e1, e2]; rfl
  have := c.here W (rel_bl (K := X.K) (F := F) (ρ := ρ) (n := st.nxt) ((ilook ks vs i).isSome != neg))
  rw [e] at this
  cases neg with
  | true =>
    refine d_notIn (show X.A.units + 1 < cLine by omega) I g ru fun s3 I3 => ⟨.bl _, H, I3, rfl, ?_⟩
    rw [Bool.bne_true] at this
    exact this
  | false =>
    refine d_in (show X.A.units + 1 < cLine by omega) I g ru fun s3 I3 => ⟨.bl _, H, I3, rfl, ?_⟩
    rw [Bool.bne_false] at this
    exact this
theorem setI_ok (hu : X.A.units + 65 < cLine) {l : Nat} {i : KK} {w2 w3 : V} {Qs : Hp → Prop} (W : Wld X.K F ρ st H) (hl : st.cs l = some (.dki ks vs)) {y : PV} (r2 : RelP X.K F ρ st.nxt y w2) (hky : keyP y = some i) (r3 : RelP X.K F ρ st.nxt v w3) (hlb : v.lb st.nxt = true) (hz : ks.length < sizeLine)
    (c : ∀ F' ρ' H', Pst X.K F ρ st H F' ρ' (st.set l (.dki (iput ks vs i v).1 (iput ks vs i v).2)) H' → Qs H') : wSet X (.ref (ρ l)) w2 w3 H Qs := by
  obtain ⟨fl, vws, hH, ll, rv⟩ := W.cell l _ hl
  cases key_w hky r2
  have hlw : ks.length = vws.length := ll.trans rv.length
  have hw : lbs st.nxt vs = true := st.wc l _ hl
  refine wSet_of (set_dict (show X.A.units + 1 < cLine by omega)) ⟨_, _, rfl, .inl ⟨kvI ks vws, i, hH, rfl, by rw [kvI_len hlw]; exact hz, rfl⟩, ?_⟩
  have key : ∃ vws', putK (kvI ks vws) i w3 = kvI (iput ks vs i v).1 vws' ∧ (iput ks vs i v).1.length = (iput ks vs i v).2.length ∧ RelPs X.K F ρ st.nxt (iput ks vs i v).2 vws' ∧ lbs st.nxt (iput ks vs i v).2 = true := by
    unfold putK iput
    rw [kvI_any hlw]
    by_cases e : i ∈ ks
    · rw [if_pos e, if_pos (decide_eq_true e), kvI_map]
      exact ⟨_, rfl, by rw [List.length_zipWith, ← ll, Nat.min_self], RelPs.zipIf r3 rv, lbs_zipIf hlb hw⟩
    · rw [if_neg e, if_neg (by rw [decide_eq_true_eq]; exact e), ← kvI_append hlw]
      exact ⟨_, rfl, by rw [List.length_append, List.length_append, ll]; rfl, rv.append (.cons r3 .nil), by rw [lbs_append, hw, lbs, lbs, hlb]; rfl⟩
  obtain ⟨vws', e1, e2, e3, e4⟩ := key
  rw [e1]
  exact c _ _ _ (W.set hl tick_dki (c := .dki (iput ks vs i v).1 (iput ks vs i v).2) (o := .dK (kvI (iput ks vs i v).1 vws')) e4 ⟨vws', rfl, e2, e3⟩)
theorem snd_dctI {pos : Pos} : SndE X (.Dict [] [] pos) dDctI := by
  intro F ρ env st v st' σ H Q W E h c
  cases h
  refine wE_of pe_dnewK fun p hp => ?_
  have a := W.alloc (c := .dki [] []) (o := .dK []) hp (by rw [Cell.lb, lbs]) ⟨[], by rw [kvI] <;> first | rfl | (intro _ _ _ _ z; cases z), rfl, .nil⟩
  refine c _ _ _ _ a ?_
  rw [RelP]
  exact ⟨by rw [Sto.alloc_nxt]; omega, by rw [if_pos rfl]⟩
/-- d.get(k) -/
theorem snd_get1 {o e : Expr} {O K' : DE} {apos cpos : Pos} (hu : X.A.units + 65 < cLine) (ho : SndE X o O) (he : SndE X e K') (m : M1 X o "get" apos e cpos) : SndE X (.Call (.Attribute o "get" apos) [e] [] cpos) (dGet1 O K') := by
  intro F ρ env st v st' σ H Q W E h c
  unfold dGet1 at h
  obtain ⟨x, st1, h1, h⟩ := mb_eq h
  cases hd : dkiOf st1 x with
  | none => rw [hd] at h; cases h
  | some kv =>
    rw [hd] at h
    obtain ⟨y, st2, h2, h⟩ := mb_eq h
    refine wE_of (pe_dget1 (show X.A.units + 1 < cLine by omega) pe_w pe_w m) ?_
    refine ho F ρ env st x st1 σ H _ W E h1 fun F1 ρ1 w1 H1 p1 r1 => ?_
    obtain ⟨a, vws, rfl, hH, l, rv⟩ := dki_ok p1.wld r1 (ks := kv.1) (vs := kv.2) hd
    refine ⟨a, rfl, .inl ⟨_, .inl hH⟩, ?_⟩
    refine he F1 ρ1 env st1 y st2 σ H1 _ p1.wld (E.step p1) h2 fun F2 ρ2 w2 H2 p2 r2 => ?_
    split at h
    · rename_i i hky
      cases key_w hky r2
      split at h
      · rename_i ks' vs' hd2
        cases h
        obtain ⟨a', vws', e, hH', l', rv'⟩ := dki_ok p2.wld (r1.step p2) hd2
        cases e
        refine ⟨_, .inl ⟨_, i, .inl hH', rfl, rfl⟩, ?_⟩
        rcases lookI_ok (i := i) l' rv' with ⟨e1, e2⟩ | ⟨v', w', e1, e2, rr⟩
        · rw [e2]
          rw [e1] at c
          exact c F2 ρ2 .non H2 (p1.trans p2) rel_non
        · rw [e2]
          rw [e1] at c
          exact c F2 ρ2 w' H2 (p1.trans p2) rr
      · cases h
    · cases h
end
end DL

/-! DL3: operators, comparisons, calls of built-ins and of the text's own defs. -/
namespace DL
open PySem PySem.Spec PyProof.Rows L2

theorem snd_opIx {X : Cx} (hu : X.A.units + 65 < cLine) : SndIx X opIx := by
  intro F ρ st x y w1 w2 v st' H Q W r1 r2 h c
  unfold opIx at h
  split at h
  · rename_i ks vs hd
    split at h
    · rename_i i hky
      cases hl : ilook ks vs i with
      | none => rw [hl] at h; cases h
      | some u =>
        rw [hl] at h
        cases h
        exact ixI_ok hu W r1 r2 hky hd hl c
    · cases h
  split at h
  · rename_i ks vs hd
    split at h
    · rename_i hk
      cases hl : dlook ks vs y with
      | none => rw [hl] at h; cases h
      | some u =>
        rw [hl] at h
        cases h
        exact ixD_ok hu W r1 r2 hd hk hl c
    · cases h
  · split at h
    · rename_i i
      cases int_ok r2
      split at h
      · rename_i xs hx
        cases e : atI xs i with
        | none => rw [e] at h; cases h
        | some u =>
          rw [e] at h
          cases h
          obtain ⟨a, vs, rfl, hq, r⟩ := seq_ok W r1 hx
          unfold atI at e
          cases ej : ixN xs.length i with
          | none => rw [ej] at e; cases e
          | some j =>
            rw [ej] at e
            obtain ⟨w, hw, rw'⟩ := r.get (i := j) e
            have at' : atI vs i = some w := by
              unfold atI
              rw [← r.length, ej]
              exact hw
            have q := c.here W rw'
            rcases hq with hq | hq
            · exact wIx_of ix_list ⟨a, vs, i, w, rfl, rfl, hq, at', q⟩
            · exact wIx_of ix_tup ⟨a, vs, i, w, rfl, rfl, hq, at', q⟩
      · cases h
    · cases h
/-! the order of tuples of ints -/
theorem lex_tot : ∀ a b : List Int, (lexLe a b || lexLe b a) = true
  | [], [] => rfl
  | [], _ :: _ => rfl
  | _ :: _, [] => rfl
  | x :: a, y :: b => by
    unfold lexLe
    rw [HT.lexLt_cons, HT.lexLt_cons]
    by_cases h : x = y
    · subst h
      rw [if_pos rfl, if_pos rfl]
      exact lex_tot a b
    · rw [if_neg h, if_neg (Ne.symm h)]
      by_cases h2 : x < y
      · rw [decide_eq_true h2, decide_eq_false (by omega)]; rfl
      · rw [decide_eq_false h2]; simp
theorem lex_anti : ∀ {a b : List Int}, lexLe a b = true → lexLe b a = true → a = b
  | [], [], _, _ => rfl
  | [], _ :: _, _, h => by cases h
  | _ :: _, [], h, _ => by cases h
  | x :: a, y :: b, h, k => by
    unfold lexLe at h k
    rw [HT.lexLt_cons] at h k
    by_cases e : x = y
    · subst e
      rw [if_pos rfl] at h k
      rw [lex_anti (a := a) (b := b) h k]
    · rw [if_neg (Ne.symm e)] at h
      rw [if_neg e] at k
      simp at h k
      omega
theorem lex_trans : ∀ {a b c : List Int}, lexLe a b = true → lexLe b c = true → lexLe a c = true
  | [], _, [], _, _ => rfl
  | [], _, _ :: _, _, _ => rfl
  | _ :: _, [], _, h, _ => by cases h
  | _ :: _, _ :: _, [], _, h => by cases h
  | x :: a, y :: b, z :: c, h, k => by
    unfold lexLe at h k ⊢
    rw [HT.lexLt_cons] at h k ⊢
    by_cases e : y = x
    · subst e
      rw [if_pos rfl] at h
      by_cases e2 : z = y
      · subst e2
        rw [if_pos rfl] at k ⊢
        exact lex_trans (a := a) (b := b) (c := c) h k
      · rw [if_neg e2] at k ⊢
        exact k
    · rw [if_neg e] at h
      by_cases e2 : z = y
      · subst e2
        rw [if_neg e]
        exact h
      · rw [if_neg e2] at k
        simp at h k
        rw [if_neg (by omega)]
        simp
        omega
theorem sortT_perm (ks : List (List Int)) : (sortT ks).Perm ks := List.mergeSort_perm ks _
theorem sortT_sorted (ks : List (List Int)) : (sortT ks).Pairwise fun a b => lexLe a b = true :=
  List.pairwise_mergeSort (le := lexLe) (fun a b c => lex_trans) (fun a b => lex_tot a b) ks
theorem sortT_uniq {ks ms : List (List Int)} (hp : ms.Perm ks) (hs : ms.Pairwise fun a b => lexLe a b = true) : ms = sortT ks :=
  List.Perm.eq_of_pairwise (le := fun a b => lexLe a b = true) (fun a b _ _ h1 h2 => lex_anti h1 h2) hs (sortT_sorted ks) (hp.trans (sortT_perm ks).symm)
theorem lexLt_code {B : Int} : ∀ {a b : List Int}, a.length = b.length → TS.Bd B a → TS.Bd B b → HT.lexLt a b = decide (TS.code B a < TS.code B b)
  | [], [], _, _, _ => by
    rw [HT.lexLt_nil_nil, decide_eq_false (Int.lt_irrefl _)]
  | x :: a, y :: b, hl, h1, h2 => by
    have hz : a.length = b.length := by simpa using hl
    clear hl
    rw [HT.lexLt_cons]
    by_cases e : x = y
    · subst e
      rw [if_pos rfl, lexLt_code hz h1.tail h2.tail]
      exact decide_eq_decide.mpr (TS.code_same hz).symm
    · rw [if_neg e]
      by_cases e2 : x < y
      · rw [decide_eq_true e2, decide_eq_true (TS.code_lt hz h1.tail h2.tail e2)]
      · have := TS.code_lt hz.symm h2.tail h1.tail (show y < x by omega)
        rw [decide_eq_false e2, decide_eq_false (by omega)]
theorem lexLe_code {B : Int} {a b : List Int} (hl : a.length = b.length) (h1 : TS.Bd B a) (h2 : TS.Bd B b) (h : TS.code B a ≤ TS.code B b) : lexLe a b = true := by
  unfold lexLe
  rw [lexLt_code hl.symm h2 h1, decide_eq_false (by omega)]
  rfl
theorem uniqT_mem {ks : List (List Int)} {x : List Int} : x ∈ uniqT ks ↔ x ∈ ks := by
  induction ks with
  | nil => exact Iff.rfl
  | cons k r ih =>
    unfold uniqT
    by_cases h : k ∈ r
    · rw [if_pos h, ih, List.mem_cons]
      constructor
      · exact .inr
      · rintro (rfl | h2)
        · exact h
        · exact h2
    · rw [if_neg h, List.mem_cons, List.mem_cons, ih]
theorem uniqT_nodup (ks : List (List Int)) : (uniqT ks).Nodup := by
  induction ks with
  | nil => exact List.nodup_nil
  | cons k r ih =>
    unfold uniqT
    by_cases h : k ∈ r
    · rw [if_pos h]; exact ih
    · rw [if_neg h]
      exact List.nodup_cons.mpr ⟨fun z => h (uniqT_mem.mp z), ih⟩
theorem perm_uniqT {ks ms : List (List Int)} (hn : ms.Nodup) (h : ∀ x, x ∈ ms ↔ x ∈ ks) : ms.Perm (uniqT ks) :=
  (List.perm_ext_iff_of_nodup hn (uniqT_nodup ks)).mpr fun x => by rw [h, uniqT_mem]
/-! lists of tuples of ints, as they lie -/
theorem perm_map_inv {α β : Type} {f : α → β} : ∀ {ys : List β} {l : List α}, ys.Perm (l.map f) → ∃ l' : List α, l'.Perm l ∧ ys = l'.map f
  | [], l, h => by
    have := h.nil_eq
    cases l with
    | nil => exact ⟨[], .refl _, rfl⟩
    | cons a l => cases this
  | y :: ys, l, h => by
    obtain ⟨a, ha, rfl⟩ := List.mem_map.mp (h.mem_iff.mp List.mem_cons_self)
    obtain ⟨s, t, rfl⟩ := List.append_of_mem ha
    have h2 : (f a :: ys).Perm (f a :: (s ++ t).map f) := by
      refine h.trans ?_
      rw [List.map_append, List.map_cons, List.map_append]
      exact List.perm_middle
    obtain ⟨l', p, e⟩ := perm_map_inv h2.cons_inv
    exact ⟨a :: l', (p.cons a).trans List.perm_middle.symm, by rw [e]; rfl⟩
theorem rel_tups {K : PySem.W.Frag} {F : Hp} {ρ : Nat → Addr} {n : Nat} : ∀ {xs : List PV} {vs : List V} {ks : List (List Int)}, tupsOf xs = some ks → RelPs K F ρ n xs vs → ∃ prs : List (Addr × List Int), vs = prs.map (fun p => V.ref p.1) ∧ ks = prs.map (·.2) ∧ ∀ p ∈ prs, SqT K F p.1 (p.2.map V.int)
  | [], vs, ks, h, r => by
    cases h
    rw [r.inv0]
    exact ⟨[], rfl, rfl, fun _ z => by cases z⟩
  | x :: xs, vs, ks, h, r => by
    obtain ⟨w, ws, rfl, h1, h2⟩ := r.inv
    unfold tupsOf at h
    split at h
    · rename_i e; cases e
    · rename_i ys r' e
      cases e
      split at h
      · rename_i ns ks' hn hk
        cases h
        obtain ⟨prs, rfl, rfl, hp⟩ := rel_tups hk h2
        rw [RelP] at h1
        obtain ⟨a, us, rfl, q, r3⟩ := h1
        have e2 := r3.intsInv hn
        subst e2
        refine ⟨(a, ns) :: prs, rfl, rfl, fun p z => ?_⟩
        rcases List.mem_cons.mp z with rfl | z
        · exact q
        · exact hp p z
      · cases h
    · cases h
theorem tups_rel {K : PySem.W.Frag} {F : Hp} {ρ : Nat → Addr} {n : Nat} : ∀ {prs : List (Addr × List Int)}, (∀ p ∈ prs, SqT K F p.1 (p.2.map V.int)) → RelPs K F ρ n (prs.map fun p => tupP p.2) (prs.map fun p => V.ref p.1)
  | [], _ => RelPs.nil
  | p :: prs, h => by
    refine RelPs.cons ?_ (tups_rel fun q z => h q (List.mem_cons_of_mem _ z))
    unfold tupP
    rw [RelP]
    exact ⟨p.1, p.2.map V.int, rfl, h p List.mem_cons_self, RelPs.ints _⟩
theorem tuple_mul1 (l : Addr) (items : Array Value) (n : Nat) (dd : Option Addr) (sl : Array (Option Value)) (u : Tok) :
    Meets (Builtin.«tuple.__mul__» ⟨[.ref l, .int 1 u], []⟩) (fun _ R s => s.heap.get? l = some { cls := .type "tuple", dict := dd, data := .seq items n, slots := sl } ∧ R (.ok (.ret (Value.ref l))) s) :=
  .of_wp fun prog w A R s h => by
    obtain ⟨hp, g, d, tk, os⟩ := s
    obtain ⟨hl, h⟩ := h
    have f1 := AutoSeq1.idx_int
    have c1 : (items.isEmpty || (1 : Int) == 1) = true := by rw [show ((1 : Int) == 1) = true from rfl, Bool.or_true]
    wp_walk using wpAny_loadPart' hl
    repeat (first
      | (refine wpAny_ite_false (decide_eq_false (by decide)) ?_; wp_walk using wpAny_loadPart' hl)
      | (refine wpAny_ite_true (decide_eq_true c1) ?_; wp_walk using wpAny_loadPart' hl))
    exact ⟨_, rfl, h⟩
theorem tuple_mul0 (l : Addr) (items : Array Value) (n : Nat) (dd : Option Addr) (sl : Array (Option Value)) (u : Tok) (hi : items.isEmpty = false) :
    Meets (Builtin.«tuple.__mul__» ⟨[.ref l, .int 0 u], []⟩) (fun _ R s => s.heap.get? l = some { cls := .type "tuple", dict := dd, data := .seq items n, slots := sl } ∧ R (.ok (.ret (Value.ref s.heap.objs.size))) { s with heap := s.heap.push { cls := Value.type "tuple", data := Data.seq #[] }, toks := s.toks }) :=
  .of_wp fun prog w A R s h => by
    obtain ⟨hp, g, d, tk, os⟩ := s
    obtain ⟨hl, h⟩ := h
    have f1 := AutoSeq1.idx_int
    have c1 : (items.isEmpty || (0 : Int) == 1) = false := by rw [hi]; rfl
    have c2 : (decide ((0 : Int) ≤ 0) || items.isEmpty) = true := by rw [hi]; rfl
    wp_walk using wpAny_loadPart' hl
    repeat (first
      | (refine wpAny_ite_false (decide_eq_false (by decide)) ?_; wp_walk using wpAny_loadPart' hl)
      | (refine wpAny_ite_false (decide_eq_false (by rw [c1]; exact Bool.false_ne_true)) ?_; wp_walk using wpAny_loadPart' hl)
      | (refine wpAny_ite_true (decide_eq_true c2) ?_; wp_walk using wpAny_loadPart' hl))
    exact ⟨_, rfl, h⟩
/-- t * k -/
def rRepA (K : PySem.W.Frag) : R2 := fun x y H Q => ∃ l k xs, x = .ref l ∧ y = .int k ∧ SqT K H l xs ∧ xs ≠ [] ∧ 0 ≤ k ∧ k ≤ 1000 ∧ xs.length ≤ 1000 ∧ (k = 1 → Q (.ref l) H) ∧ (k ≠ 1 → ∀ p, H p = none → Q (.ref p) (upd H p (.tup (List.replicate k.toNat xs).flatten)))
section
variable {X : Cx}
theorem op_repA : OpR X (binaryOp .Mult) (rRepA X.K) := by
  intro pins s σ H x y v u Q I rx ry h
  obtain ⟨l, k, xs, rfl, rfl, hT, hne, h0, h1, hz, q1, q⟩ := h
  by_cases h2 : 2 ≤ k
  · exact op_repT pins s σ H _ _ v u Q I rx ry ⟨l, k, xs, rfl, rfl, hT, hne, h2, h1, hz, q (by omega)⟩
  cases rx
  obtain ⟨t, rfl⟩ := ry
  obtain ⟨its, r, ⟨⟨cls, dd, data, sl⟩, ho, hc, n, hd⟩, hs⟩ := I.tuple hT
  simp only at hc hd
  subst hc hd
  have hle : its.length = xs.length := r.length.symm
  have hi : its.toArray.isEmpty = false := by
    cases its with
    | nil => exact absurd (List.eq_nil_of_length_eq_zero hle.symm) hne
    | cons a b => rfl
  by_cases hk : k = 1
  · subst hk
    refine wpAny_binaryOp_repeat_ref (T := "tuple") (U := "int") (by decide) ⟨_, ho, rfl⟩ (fun s' => typeIs_int s' 1 t) noFill_tuple_mul F.fills_int_mul F.slot_int_rmul repeat_tuple F.slot_int_index.lookup
      (call_meets F.slot_int_rmul (typeIs_int s 1 t) F.entry_int_rmul (F.args_int_rmul_2 _ _) (int_rmul_tuple 1 t l its.toArray n dd sl)
        ⟨ho, rfl, ⟨_, ho, rfl⟩, call_meets F.slot_tuple_mul ⟨_, ho, rfl⟩ F.entry_tuple_mul (F.args_tuple_mul_2 _ _) (tuple_mul1 l its.toArray n dd sl t) ⟨ho, ?_⟩⟩)
    exact ⟨.ref l, H, I, rfl, q1 rfl⟩
  · have hk : k = 0 := by omega
    subst hk
    refine wpAny_binaryOp_repeat_ref (T := "tuple") (U := "int") (by decide) ⟨_, ho, rfl⟩ (fun s' => typeIs_int s' 0 t) noFill_tuple_mul F.fills_int_mul F.slot_int_rmul repeat_tuple F.slot_int_index.lookup
      (call_meets F.slot_int_rmul (typeIs_int s 0 t) F.entry_int_rmul (F.args_int_rmul_2 _ _) (int_rmul_tuple 0 t l its.toArray n dd sl)
        ⟨ho, rfl, ⟨_, ho, rfl⟩, call_meets F.slot_tuple_mul ⟨_, ho, rfl⟩ F.entry_tuple_mul (F.args_tuple_mul_2 _ _) (tuple_mul0 l its.toArray n dd sl t hi) ⟨ho, ?_⟩⟩)
    refine ⟨.ref s.heap.objs.size, _, I.laid (t' := s.toks) (o := .tup (List.replicate (0 : Int).toNat xs).flatten) (fun b ob q => Heap.get?_push_of_some _ q) (Nat.le_refl _) ?_, rfl, q (by omega) _ (I.hok.fresh (Nat.le_refl _))⟩
    exact ⟨by show ([] : List V).length ≤ sizeLine; exact Nat.zero_le _, _, Paired.nil, IsTup.new _ _⟩
theorem vals3 {x y z : V} {us : List Value} (r : Vals [x, y, z] us) : ∃ u w t, us = [u, w, t] ∧ RelV x u ∧ RelV y w ∧ RelV z t := by
  cases r with
  | cons r1 r2 =>
    obtain ⟨u, w, rfl, a, b⟩ := vals2 r2
    exact ⟨_, _, _, rfl, r1, a, b⟩
theorem call_max3 (hc : X.calm = true) : CallR X (.builtin "max") (fun xs H Q => ∃ i j k, xs = [.int i, .int j, .int k] ∧ Q (.int (if j > i then (if k > j then k else j) else (if k > i then k else i))) H) := by
  intro pins s σ H xs us Q I r h
  obtain ⟨i, j, k, rfl, q⟩ := h
  obtain ⟨u, w', z, rfl, ⟨t, rfl⟩, ⟨t', rfl⟩, ⟨t'', rfl⟩⟩ := vals3 r
  refine max_three_ints (I.ok.hd hc) fun h' tk kk => ⟨_, H, I.kept kk, ?_, q⟩
  by_cases hj : j > i
  · rw [if_pos hj, if_pos hj]
    by_cases hk : k > j
    · rw [if_pos hk, if_pos hk]; exact ⟨_, rfl⟩
    · rw [if_neg hk, if_neg hk]; exact ⟨_, rfl⟩
  · rw [if_neg hj, if_neg hj]
    by_cases hk : k > i
    · rw [if_pos hk, if_pos hk]; exact ⟨_, rfl⟩
    · rw [if_neg hk, if_neg hk]; exact ⟨_, rfl⟩
theorem call_min3 (hc : X.calm = true) : CallR X (.builtin "min") (fun xs H Q => ∃ i j k, xs = [.int i, .int j, .int k] ∧ Q (.int (if j < i then (if k < j then k else j) else (if k < i then k else i))) H) := by
  intro pins s σ H xs us Q I r h
  obtain ⟨i, j, k, rfl, q⟩ := h
  obtain ⟨u, w', z, rfl, ⟨t, rfl⟩, ⟨t', rfl⟩, ⟨t'', rfl⟩⟩ := vals3 r
  refine min_three_ints (I.ok.hd hc) fun h' tk kk => ⟨_, H, I.kept kk, ?_, q⟩
  by_cases hj : j < i
  · rw [if_pos hj, if_pos hj]
    by_cases hk : k < j
    · rw [if_pos hk, if_pos hk]; exact ⟨_, rfl⟩
    · rw [if_neg hk, if_neg hk]; exact ⟨_, rfl⟩
  · rw [if_neg hj, if_neg hj]
    by_cases hk : k < i
    · rw [if_pos hk, if_pos hk]; exact ⟨_, rfl⟩
    · rw [if_neg hk, if_neg hk]; exact ⟨_, rfl⟩
end
section
variable {X : Cx}
theorem so_add {m : Bool} : SndO X (binaryOp .Add) (opAdd m) := by
  intro F ρ st x y w1 w2 v st' H Q W r1 r2 h c
  unfold opAdd at h
  split at h
  · cases h
    cases int_ok r1; cases int_ok r2
    exact wR_of op_add ⟨_, _, rfl, rfl, c.here W (rel_int _)⟩
  · split at h
    · rename_i hz
      cases h
      cases str_ok r1; cases str_ok r2
      exact wR_of op_add_str ⟨_, _, rfl, rfl, hz, c.here W (rel_str _)⟩
    · cases h
  · rename_i a b
    split at h
    · rename_i hz
      cases h
      obtain ⟨p, vs, rfl, q1, s1⟩ := tup_ok W r1
      obtain ⟨p', vs', rfl, q2, s2⟩ := tup_ok W r2
      refine wR_of op_catA ⟨_, _, vs, vs', rfl, rfl, q1, q2, by rw [← s1.length, ← s2.length]; exact hz, fun e => ?_, fun e e' => ?_, fun e e' p hp => ?_⟩
      · subst e
        have : a = [] := List.eq_nil_of_length_eq_zero s1.length
        subst this
        exact c.here W r2
      · subst e'
        have : b = [] := List.eq_nil_of_length_eq_zero s2.length
        subst this
        rw [List.append_nil] at c
        exact c.here W r1
      · exact tupV_ok W (s1.append s2) c hp
    · cases h
  · split at h
    · rename_i a b ha hb
      obtain ⟨p, vs, rfl, q1, s1⟩ := lst_ok W r1 ha
      obtain ⟨p', vs', rfl, q2, s2⟩ := lst_ok W r2 hb
      obtain ⟨hz, k⟩ := mkL_ok W (s1.append s2) h c
      exact wR_of op_cat ⟨_, _, vs, vs', rfl, rfl, q1, q2, by rw [← List.length_append]; exact hz, k⟩
    · cases h
theorem so_sub : SndO X (binaryOp .Sub) opSub := by
  intro F ρ st x y w1 w2 v st' H Q W r1 r2 h c
  unfold opSub at h
  split at h
  · cases h
    cases int_ok r1; cases int_ok r2
    exact wR_of op_sub ⟨_, _, rfl, rfl, c.here W (rel_int _)⟩
  · cases h
theorem so_mul : SndO X (binaryOp .Mult) opMul := by
  intro F ρ st x y w1 w2 v st' H Q W r1 r2 h c
  unfold opMul at h
  split at h
  · split at h
    · rename_i hz
      cases h
      cases int_ok r1; cases int_ok r2
      exact wR_of op_mul ⟨_, _, rfl, rfl, okMul_iff.mp hz, c.here W (rel_int _)⟩
    · split at h
      · rename_i hz
        cases h
        cases int_ok r1; cases int_ok r2
        obtain ⟨z1, z2⟩ := okMulX_iff.mp hz
        exact wR_of op_mulX ⟨_, _, rfl, rfl, mulx_ok z1 z2 (by decide), c.here W (rel_int _)⟩
      · cases h
  · rename_i xs k
    split at h
    · rename_i hz
      cases h
      obtain ⟨z0, z1, z2, z3⟩ := okRep_iff.mp hz
      obtain ⟨p, vs, rfl, q1, s1⟩ := tup_ok W r1
      cases int_ok r2
      have hl := s1.length
      refine wR_of op_repA ⟨p, k, vs, rfl, rfl, q1, fun e => ?_, z2, z3, by omega, fun e => ?_, fun e p hp => ?_⟩
      · subst e
        rw [List.length_nil] at hl
        omega
      · subst e
        have : (List.replicate (1 : Int).toNat xs).flatten = xs := by
          show (List.replicate 1 xs).flatten = xs
          simp
        rw [this] at c
        exact c.here W r1
      · exact tupV_ok W (s1.replicate _) c hp
    · cases h
  · cases h
theorem so_mod : SndO X (binaryOp .Mod) opMod := by
  intro F ρ st x y w1 w2 v st' H Q W r1 r2 h c
  unfold opMod at h
  split at h
  · split at h
    · rename_i hz
      cases h
      cases int_ok r1; cases int_ok r2
      exact wR_of op_mod ⟨_, _, rfl, rfl, okMod_iff.mp hz, c.here W (rel_int _)⟩
    · cases h
  · cases h
theorem so_div : SndO X (binaryOp .FloorDiv) opDiv := by
  intro F ρ st x y w1 w2 v st' H Q W r1 r2 h c
  unfold opDiv at h
  split at h
  · split at h
    · rename_i hz
      cases h
      cases int_ok r1; cases int_ok r2
      exact wR_of op_fdiv ⟨_, _, rfl, rfl, okDiv_iff.mp hz, c.here W (rel_int _)⟩
    · cases h
  · cases h
theorem so_pow : SndO X (binaryOp .Pow) opPow := by
  intro F ρ st x y w1 w2 v st' H Q W r1 r2 h c
  unfold opPow at h
  split at h
  · split at h
    · rename_i hz
      cases h
      cases int_ok r1; cases int_ok r2
      exact wR_of op_pow ⟨_, _, rfl, rfl, okPow_iff.mp hz, c.here W (rel_int _)⟩
    · cases h
  · cases h
theorem su_neg : SndU X (unaryOp .USub) opNeg := by
  intro F ρ st x w1 v st' H Q W r1 h c
  unfold opNeg at h
  split at h
  · cases h
    cases int_ok r1
    exact wU_of un_neg ⟨_, rfl, c.here W (rel_int _)⟩
  · cases h
theorem so_cmpI {op : CmpOp} {p : Int → Int → Bool} (hr : OpR X (compareOp op) (rI0 fun i j => .bl (p i j))) : SndO X (compareOp op) (cmpI p) := by
  intro F ρ st x y w1 w2 v st' H Q W r1 r2 h c
  unfold cmpI at h
  split at h
  · cases h
    cases int_ok r1; cases int_ok r2
    exact wR_of hr ⟨_, _, rfl, rfl, c.here W (rel_bl _)⟩
  · cases h
theorem so_le : SndO X (compareOp .LtE) (cmpI fun i j => decide (i ≤ j)) := so_cmpI op_le
theorem so_gt : SndO X (compareOp .Gt) (cmpI fun i j => decide (j < i)) := so_cmpI op_gt
theorem so_ge : SndO X (compareOp .GtE) (cmpI fun i j => decide (j ≤ i)) := so_cmpI op_ge

/-! == -/
mutual
theorem dp_ok {K : PySem.W.Frag} {F H : Hp} {ρ : Nat → Addr} {n : Nat} {cs : Nat → Option Cell} (s : Sub F H) : ∀ {x : PV} {w : V} {d : PyData}, RelP K F ρ n x w → x.toD cs = some d → Dp K H w d
  | .non, _, _, r, h => by rw [PV.toD] at h; cases h; rw [non_ok r]; exact .non
  | .bl _, _, _, r, h => by rw [PV.toD] at h; cases h; rw [bl_ok r]; exact .bl _
  | .int _, _, _, r, h => by rw [PV.toD] at h; cases h; rw [int_ok r]; exact .int _
  | .str _, _, _, r, h => by rw [PV.toD] at h; cases h; rw [str_ok r]; exact .str _
  | .tup xs, _, _, r, h => by
    rw [PV.toD] at h
    rw [RelP] at r
    obtain ⟨a, vs, rfl, q, r⟩ := r
    cases e : toDs cs xs with
    | none => rw [e] at h; cases h
    | some ds =>
      rw [e] at h; cases h
      exact .tup (s.sqT q) (dps_ok s r e)
  | .lst xs, _, _, r, h => by
    rw [PV.toD] at h
    rw [RelP] at r
    obtain ⟨a, vs, rfl, q, r⟩ := r
    cases e : toDs cs xs with
    | none => rw [e] at h; cases h
    | some ds =>
      rw [e] at h; cases h
      exact .lst (.inl (.inl (s _ _ q))) (dps_ok s r e)
  | .ro xs, _, _, r, h => by
    rw [PV.toD] at h
    rw [RelP] at r
    obtain ⟨a, vs, rfl, q, r⟩ := r
    cases e : toDs cs xs with
    | none => rw [e] at h; cases h
    | some ds =>
      rw [e] at h; cases h
      exact .lst (s.sqL q) (dps_ok s r e)
  | .dct _ _, _, _, _, h => by rw [PV.toD] at h; cases h
  | .dki _ _, _, _, _, h => by rw [PV.toD] at h; cases h
  | .loc _, _, _, _, h => by rw [PV.toD] at h; cases h
theorem dps_ok {K : PySem.W.Frag} {F H : Hp} {ρ : Nat → Addr} {n : Nat} {cs : Nat → Option Cell} (s : Sub F H) : ∀ {xs : List PV} {ws : List V} {ds : List PyData}, RelPs K F ρ n xs ws → toDs cs xs = some ds → DpAll K H ws ds
  | [], _, _, r, h => by rw [toDs] at h; cases h; rw [r.inv0]; exact .nil
  | x :: r, _, _, rr, h => by
    rw [toDs] at h
    obtain ⟨w, ws, rfl, h1, h2⟩ := rr.inv
    cases e : x.toD cs with
    | none => rw [e] at h; cases h
    | some d =>
      cases e2 : toDs cs r with
      | none => rw [e, e2] at h; cases h
      | some ds =>
        rw [e, e2] at h; cases h
        exact .cons (dp_ok s h1 e) (dps_ok s h2 e2)
end
theorem dpd_ok {F : Hp} {ρ : Nat → Addr} {st : Sto} {H : Hp} {x : PV} {w : V} {d : PyData} (W : Wld X.K F ρ st H) (r : RelP X.K F ρ st.nxt x w) (h : (derf st x).toD st.cs = some d) : Dp X.K H w d := by
  unfold derf at h
  split at h
  · rename_i l
    split at h
    · rename_i c hc
      rw [RelP] at r
      obtain ⟨_, rfl⟩ := r
      obtain ⟨_, q⟩ := W.cell l c hc
      cases c with
      | lst xs =>
        obtain ⟨vs, e, q⟩ := q
        have h : (PV.lst xs).toD st.cs = some d := h
        rw [PV.toD] at h
        cases e2 : toDs st.cs xs with
        | none => rw [e2] at h; cases h
        | some ds =>
          rw [e2] at h; cases h
          exact .lst (.inl (.inl e)) (dps_ok W.sub q e2)
      | dct ks vs =>
        have h : (PV.dct ks vs).toD st.cs = some d := h
        rw [PV.toD] at h; cases h
      | dki ks vs =>
        have h : (PV.dki ks vs).toD st.cs = some d := h
        rw [PV.toD] at h; cases h
    · rw [PV.toD] at h; cases h
  · exact dp_ok W.sub r h
theorem so_lt (hu : X.A.units + 65 < cLine) : SndO X (compareOp .Lt) cmpLt := by
  intro F ρ st x y w1 w2 v st' H Q W r1 r2 h c
  unfold cmpLt at h
  split at h
  · cases h
    cases int_ok r1; cases int_ok r2
    exact wR_of op_lt ⟨_, _, rfl, rfl, c.here W (rel_bl _)⟩
  · split at h
    · rename_i d e h1 h2
      split at h
      · rename_i hz
        cases h
        rw [Bool.and_eq_true, decide_eq_true_eq] at hz
        have d1 := dp_ok W.sub r1 h1
        have d2 := dp_ok W.sub r2 h2
        have hn : d ≠ .none := by
          rw [PV.toD] at h1
          intro z
          subst z
          cases q : toDs st.cs _ with
          | none => rw [q] at h1; cases h1
          | some _ => rw [q] at h1; cases h1
        intro pins s σ v u I rv ru
        obtain ⟨as, ra⟩ := Dp.reads I d w1 v d1 rv
        obtain ⟨bs, rb⟩ := Dp.reads I e w2 u d2 ru
        show wpAny _ _ (richCompare .Lt v u) _ _ s
        exact PySem.W.rcLt_alike d e X.A s v u as bs ra rb hz.1 hn (by omega) X.prog X.w _ _ ⟨.bl _, H, I, rfl, c.here W (rel_bl _)⟩
      · cases h
    · cases h
  · cases h
theorem so_eq (hu : X.A.units + 65 < cLine) : SndO X (compareOp .Eq) (cmpEq false) := by
  intro F ρ st x y w1 w2 v st' H Q W r1 r2 h c
  unfold cmpEq at h
  split at h
  · rename_i d e hd he
    split at h
    · rename_i hs
      cases h
      rw [Bool.and_eq_true] at hs
      have q := c.here W (rel_bl _)
      rw [Bool.bne_false] at q
      exact wR_of (op_eqD (by omega)) ⟨d, e, dpd_ok W r1 hd, dpd_ok W r2 he, hs.1, hs.2, q⟩
    · cases h
  · cases h
theorem so_ne (hu : X.A.units + 65 < cLine) : SndO X (compareOp .NotEq) (cmpEq true) := by
  intro F ρ st x y w1 w2 v st' H Q W r1 r2 h c
  unfold cmpEq at h
  split at h
  · rename_i d e hd he
    split at h
    · rename_i hs
      cases h
      rw [Bool.and_eq_true] at hs
      have q := c.here W (rel_bl _)
      rw [Bool.bne_true] at q
      exact wR_of (op_neD (by omega)) ⟨d, e, dpd_ok W r1 hd, dpd_ok W r2 he, hs.1, hs.2, q⟩
    · cases h
  · cases h
/-! in -/
theorem flat_ok {K : PySem.W.Frag} {F : Hp} {ρ : Nat → Addr} {n : Nat} {x : PV} {w : V} (r : RelP K F ρ n x w) (h : flatP x = true) : flatV w = true := by
  cases x with
  | non => rw [non_ok r]; rfl
  | bl b => rw [bl_ok r]; rfl
  | int b => rw [int_ok r]; rfl
  | str b => rw [str_ok r]; rfl
  | _ => exact absurd (show false = true from h) Bool.false_ne_true
theorem eqP_ok {K : PySem.W.Frag} {F : Hp} {ρ : Nat → Addr} {n : Nat} {x y : PV} {w u : V} (r : RelP K F ρ n x w) (r' : RelP K F ρ n y u) (h : flatP x = true) (h' : flatP y = true) : eqV w u = eqP x y := by
  cases x with
  | non =>
    rw [non_ok r]
    cases y with
    | non => rw [non_ok r']; rfl
    | bl b => rw [bl_ok r']; rfl
    | int b => rw [int_ok r']; rfl
    | str b => rw [str_ok r']; rfl
    | _ => exact absurd (show false = true from h') Bool.false_ne_true
  | bl b =>
    rw [bl_ok r]
    cases y with
    | non => rw [non_ok r']; rfl
    | bl b => rw [bl_ok r']; rfl
    | int b => rw [int_ok r']; rfl
    | str b => rw [str_ok r']; rfl
    | _ => exact absurd (show false = true from h') Bool.false_ne_true
  | int b =>
    rw [int_ok r]
    cases y with
    | non => rw [non_ok r']; rfl
    | bl b => rw [bl_ok r']; rfl
    | int b => rw [int_ok r']; rfl
    | str b => rw [str_ok r']; rfl
    | _ => exact absurd (show false = true from h') Bool.false_ne_true
  | str b =>
    rw [str_ok r]
    cases y with
    | non => rw [non_ok r']; rfl
    | bl b => rw [bl_ok r']; rfl
    | int b => rw [int_ok r']; rfl
    | str b => rw [str_ok r']; rfl
    | _ => exact absurd (show false = true from h') Bool.false_ne_true
  | _ => exact absurd (show false = true from h) Bool.false_ne_true
theorem flats_ok {K : PySem.W.Frag} {F : Hp} {ρ : Nat → Addr} {n : Nat} {x : PV} {w : V} (r : RelP K F ρ n x w) (h : flatP x = true) : ∀ {ys : List PV} {us : List V}, RelPs K F ρ n ys us → ys.all flatP = true → us.all flatV = true ∧ (us.any fun y => eqV y w) = ys.any fun z => eqP z x
  | [], _, q, _ => by rw [q.inv0]; exact ⟨rfl, rfl⟩
  | y :: ys, _, q, f => by
    obtain ⟨u, us, rfl, q1, q2⟩ := q.inv
    rw [List.all_cons, Bool.and_eq_true] at f
    obtain ⟨i1, i2⟩ := flats_ok r h q2 f.2
    rw [List.all_cons, List.any_cons, List.any_cons, i1, i2, flat_ok q1 f.1, eqP_ok q1 r f.1 h]
    exact ⟨rfl, rfl⟩
theorem so_in (hu : X.A.units + 65 < cLine) : SndO X (compareOp .In) (cmpIn false) := by
  intro F ρ st x y w1 w2 v st' H Q W r1 r2 h c
  unfold cmpIn at h
  split at h
  · rename_i ks vs hd
    split at h
    · rename_i i hky
      cases h
      exact inI_ok hu false W r1 hky r2 hd c
    · cases h
  split at h
  · rename_i ks vs hd
    split at h
    · rename_i hk
      cases h
      exact inD_ok hu false W r1 r2 hd hk c
    · cases h
  unfold cmpInS at h
  split at h
  · rename_i ys hy
    split at h
    · rename_i hf
      cases h
      rw [Bool.and_eq_true] at hf
      obtain ⟨a, vs, rfl, hq, r⟩ := seq_ok W r2 hy
      obtain ⟨f1, f2⟩ := flats_ok r1 hf.1 r hf.2
      have q := c.here W (rel_bl _)
      rw [Bool.bne_false, ← f2] at q
      exact wR_of op_in_seq ⟨a, vs, rfl, hq, flat_ok r1 hf.1, f1, q⟩
    · split at h
      · rename_i ys hy
        split at h
        · rename_i d ds hd hds
          split at h
          · rename_i hs
            cases h
            rw [Bool.and_eq_true] at hs
            obtain ⟨a, vs, rfl, hq, r⟩ := lst_ok W r2 hy
            have q := c.here W (rel_bl _)
            rw [Bool.bne_false] at q
            exact wR_of (op_inD hu) ⟨d, ds, dpd_ok W r1 hd, .lst (.inl (.inl hq)) (dps_ok W.sub r hds), hs.1, hs.2, q⟩
          · cases h
        · cases h
      · cases h
  · cases h
theorem so_notIn (hu : X.A.units + 65 < cLine) : SndO X (compareOp .NotIn) (cmpIn true) := by
  intro F ρ st x y w1 w2 v st' H Q W r1 r2 h c
  unfold cmpIn at h
  split at h
  · rename_i ks vs hd
    split at h
    · rename_i i hky
      cases h
      exact inI_ok hu true W r1 hky r2 hd c
    · cases h
  split at h
  · rename_i ks vs hd
    split at h
    · rename_i hk
      cases h
      exact inD_ok hu true W r1 r2 hd hk c
    · cases h
  unfold cmpInS at h
  split at h
  · rename_i ys hy
    split at h
    · rename_i hf
      cases h
      rw [Bool.and_eq_true] at hf
      obtain ⟨a, vs, rfl, hq, r⟩ := seq_ok W r2 hy
      obtain ⟨f1, f2⟩ := flats_ok r1 hf.1 r hf.2
      have q := c.here W (rel_bl _)
      rw [Bool.bne_true, ← f2] at q
      exact wR_of op_notIn_seq ⟨a, vs, rfl, hq, flat_ok r1 hf.1, f1, q⟩
    · split at h
      · rename_i ys hy
        split at h
        · rename_i d ds hd hds
          split at h
          · rename_i hs
            cases h
            rw [Bool.and_eq_true] at hs
            obtain ⟨a, vs, rfl, hq, r⟩ := lst_ok W r2 hy
            have q := c.here W (rel_bl _)
            rw [Bool.bne_true] at q
            exact wR_of (op_notInD hu) ⟨d, ds, dpd_ok W r1 hd, .lst (.inl (.inl hq)) (dps_ok W.sub r hds), hs.1, hs.2, q⟩
          · cases h
        · cases h
      · cases h
  · cases h

/-! ### chains, conditions -/
variable {pos : Pos} {a b c e : Expr} {A B C : DE}
theorem snd_ite {t : Expr} {T : DT} (ht : SndT X t T) (ha : SndE X a A) (hb : SndE X b B) : SndE X (.IfExp t a b pos) (dIte T A B) := by
  intro F ρ env st v st' σ H Q W E h c
  obtain ⟨k, st1, h1, h2⟩ := mb_eq h
  refine wE_of (pe_ifExp pt_w pe_w pe_w) (ht F ρ env st k st1 σ H _ W E h1 fun F1 ρ1 H1 p1 => ?_)
  cases k with
  | true => exact ha F1 ρ1 env st1 v st' σ H1 Q p1.wld (E.step p1) h2 (Ct.of p1 c)
  | false => exact hb F1 ρ1 env st1 v st' σ H1 Q p1.wld (E.step p1) h2 (Ct.of p1 c)

/-! ### slices -/
def SndOp (X : Cx) (oe : Option Expr) (D : DO) : Prop := ∃ t, PO X oe t ∧ ∀ F ρ env st o st' σ H Q, Wld X.K F ρ st H → ERel X.K F ρ st.nxt env σ → D env st = some (o, st') →
  (∀ F' ρ' H', Pst X.K F ρ st H F' ρ' st' H' → Q o H') → t σ H Q
theorem sop_none : SndOp X none oNone := ⟨_, po_none, fun F ρ env st o st' σ H Q W E h c => by cases h; exact c F ρ H (Pst.refl W)⟩
theorem sop_some (ha : SndE X a A) : SndOp X (some a) (oSome A) := ⟨_, po_some pe_w, fun F ρ env st o st' σ H Q W E h c => by
  obtain ⟨x, st1, h1, h2⟩ := mb_eq h
  refine ha F ρ env st x st1 σ H _ W E h1 fun F1 ρ1 w1 H1 p1 r1 => ?_
  split at h2
  · cases h2
    exact ⟨_, int_ok r1, c F1 ρ1 H1 p1⟩
  · cases h2⟩
theorem RelPs.cut {K : PySem.W.Frag} {F : Hp} {ρ : Nat → Addr} {n : Nat} {xs : List PV} {vs : List V} (r : RelPs K F ρ n xs vs) (lo hi : Option Int) : RelPs K F ρ n (cutP xs lo hi) (cutV vs lo hi) := by
  unfold cutP cutV
  rw [r.length]
  exact (r.drop _).take _
theorem cut_whole {xs : List PV} {lo hi : Option Int} (h : HT.sIx xs.length 0 lo = 0 ∧ HT.sIx xs.length xs.length hi = xs.length) : cutP xs lo hi = xs := by
  unfold cutP
  rw [h.1, h.2, List.drop_zero, Nat.sub_zero, List.take_length]
theorem snd_sl {m : Bool} {lo hi : Option Expr} {L U : DO} {p2 : Pos} (ha : SndE X a A) (hl : SndOp X lo L) (hu : SndOp X hi U) : SndE X (.Subscript a (.Slice lo hi none p2) pos) (dSl m A L U) := by
  intro F ρ env st v st' σ H Q W E h c
  obtain ⟨tl, pl, kl⟩ := hl
  obtain ⟨tu, pu, ku⟩ := hu
  obtain ⟨x, st1, h1, h⟩ := mb_eq h
  obtain ⟨l, st2, h2, h⟩ := mb_eq h
  obtain ⟨u, st3, h3, h⟩ := mb_eq h
  refine wE_of (pe_slice (SlR.or sl_list sl_tupA) pe_w pl pu) ?_
  refine ha F ρ env st x st1 σ H _ W E h1 fun F1 ρ1 w1 H1 p1 r1 => ?_
  refine kl F1 ρ1 env st1 l st2 σ H1 _ p1.wld (E.step p1) h2 fun F2 ρ2 H2 p2 => ?_
  refine ku F2 ρ2 env st2 u st3 σ H2 _ p2.wld ((E.step p1).step p2) h3 fun F3 ρ3 H3 p3 => ?_
  have r3 := (r1.step p2).step p3
  have W3 := p3.wld
  have c3 := Ct.of ((p1.trans p2).trans p3) c
  split at h
  · cases h
    obtain ⟨p, vs, rfl, q, r⟩ := tup_ok W3 r3
    refine .inr ⟨p, vs, rfl, q, fun hw => ?_, fun _ p' hp => ?_⟩
    · rw [← r.length] at hw
      rw [cut_whole hw] at c3
      exact c3.here W3 r3
    · exact tupV_ok W3 (r.cut _ _) c3 hp
  · split at h
    · rename_i xs hx
      obtain ⟨p, vs, rfl, q, r⟩ := lst_ok W3 r3 hx
      exact .inl ⟨p, vs, rfl, .inl (.inl q), (mkL_ok W3 (r.cut _ _) h c3).2⟩
    · cases h

/-! ### calls -/
theorem snd_callB {x : Str} {p : Pos} {es : List Expr} {id : String} {D : DA} {f : FSem} (hf : SndC X (.builtin id) f) (hg : Gl X x) (hm : X.mg x = none) (hv : bootBuiltins x = some (.builtin id)) (ha : SndA X (e :: es) D) (hn : x ≠ "__name__") (hdb : (x == ("__debug__" : Str)) = false)
    (he : starEach (e :: es) X.env = (false, eval e X.env) :: starEach es X.env) (hpl : (backTo pos (starEach es X.env)).any (·.1) = false) : SndE X (.Call (.Name x p) (e :: es) [] pos) (dApp f D) := by
  intro F ρ env st v st' σ H Q W E h c
  obtain ⟨xs, st1, h1, h⟩ := mb_eq h
  refine wE_of (pe_callB cr_w hg hm hv pa_w hn hdb he hpl) ?_
  exact ha F ρ env st xs st1 σ H _ W E h1 fun F1 ρ1 w1 H1 p1 r1 => hf F1 ρ1 st1 xs w1 v st' H1 Q p1.wld r1 h (Ct.of p1 c)
theorem snd_callTy {x : Str} {p : Pos} {es : List Expr} {T : String} {D : DA} {f : FSem} (hf : SndC X (.type T) f) (hg : Gl X x) (hm : X.mg x = none) (hv : bootBuiltins x = some (.type T)) (ha : SndA X (e :: es) D) (hn : x ≠ "__name__") (hdb : (x == ("__debug__" : Str)) = false)
    (he : starEach (e :: es) X.env = (false, eval e X.env) :: starEach es X.env) (hpl : (backTo pos (starEach es X.env)).any (·.1) = false) : SndE X (.Call (.Name x p) (e :: es) [] pos) (dApp f D) := by
  intro F ρ env st v st' σ H Q W E h c
  obtain ⟨xs, st1, h1, h⟩ := mb_eq h
  refine wE_of (pe_callTy cr_w hg hm hv pa_w hn hdb he hpl) ?_
  exact ha F ρ env st xs st1 σ H _ W E h1 fun F1 ρ1 w1 H1 p1 r1 => hf F1 ρ1 st1 xs w1 v st' H1 Q p1.wld r1 h (Ct.of p1 c)
theorem one_inv {K : PySem.W.Frag} {F : Hp} {ρ : Nat → Addr} {n : Nat} {x : PV} {ws : List V} (r : RelPs K F ρ n [x] ws) : ∃ w, ws = [w] ∧ RelP K F ρ n x w := by
  obtain ⟨w, ws, rfl, h1, h2⟩ := r.inv
  rw [h2.inv0]
  exact ⟨w, rfl, h1⟩
theorem two_inv {K : PySem.W.Frag} {F : Hp} {ρ : Nat → Addr} {n : Nat} {x y : PV} {ws : List V} (r : RelPs K F ρ n [x, y] ws) : ∃ w u, ws = [w, u] ∧ RelP K F ρ n x w ∧ RelP K F ρ n y u := by
  obtain ⟨w, ws, rfl, h1, h2⟩ := r.inv
  obtain ⟨u, rfl, h3⟩ := one_inv h2
  exact ⟨w, u, rfl, h1, h3⟩
theorem three_inv {K : PySem.W.Frag} {F : Hp} {ρ : Nat → Addr} {n : Nat} {x y z : PV} {ws : List V} (r : RelPs K F ρ n [x, y, z] ws) : ∃ w u t, ws = [w, u, t] ∧ RelP K F ρ n x w ∧ RelP K F ρ n y u ∧ RelP K F ρ n z t := by
  obtain ⟨w, ws, rfl, h1, h2⟩ := r.inv
  obtain ⟨u, t, rfl, h3, h4⟩ := two_inv h2
  exact ⟨w, u, t, rfl, h1, h3, h4⟩
theorem sc_len : SndC X (.builtin "len") bLen := by
  intro F ρ st xs ws v st' H Q W r h c
  unfold bLen at h
  split at h
  · split at h
    · rename_i hz
      cases h
      obtain ⟨w, rfl, r1⟩ := one_inv r
      cases str_ok r1
      exact wC_of call_len_str ⟨_, rfl, hz, c.here W (rel_int _)⟩
    · cases h
  · split at h
    · rename_i xs hx
      cases h
      obtain ⟨w, rfl, r1⟩ := one_inv r
      obtain ⟨a, vs, rfl, hq, r2⟩ := seq_ok W r1 hx
      have q := c.here W (rel_int _)
      rw [r2.length] at q
      exact wC_of call_len_seq ⟨a, vs, rfl, hq, q⟩
    · split at h
      · rename_i ks vs hd
        cases h
        obtain ⟨w, rfl, r1⟩ := one_inv r
        exact lenD_ok W r1 hd c
      · cases h
  · cases h
theorem sc_abs : SndC X (.builtin "abs") bAbs := by
  intro F ρ st xs ws v st' H Q W r h c
  unfold bAbs at h
  split at h
  · cases h
    obtain ⟨w, rfl, r1⟩ := one_inv r
    cases int_ok r1
    exact wC_of call_abs ⟨_, rfl, c.here W (rel_int _)⟩
  · cases h
theorem sc_int : SndC X (.type "int") bInt := by
  intro F ρ st xs ws v st' H Q W r h c
  unfold bInt at h
  split at h
  · cases h
    obtain ⟨w, rfl, r1⟩ := one_inv r
    cases int_ok r1
    exact wC_of call_int1 (.inl ⟨_, rfl, c.here W (rel_int _)⟩)
  · cases h
    obtain ⟨w, rfl, r1⟩ := one_inv r
    cases bl_ok r1
    exact wC_of call_int1 (.inr ⟨_, rfl, c.here W (rel_int _)⟩)
  · cases h
theorem maxL_spec : ∀ (x : Int) (r : List Int), maxL (x :: r) ∈ x :: r ∧ ∀ y ∈ x :: r, y ≤ maxL (x :: r)
  | x, [] => ⟨by simp [maxL], fun y h => by simp at h; subst h; exact Int.le_refl _⟩
  | x, z :: r => by
    obtain ⟨h1, h2⟩ := maxL_spec z r
    have e : maxL (x :: z :: r) = max x (maxL (z :: r)) := rfl
    rw [e]
    refine ⟨?_, fun y h => ?_⟩
    · by_cases q : x ≤ maxL (z :: r)
      · rw [Int.max_eq_right q]; exact List.mem_cons_of_mem _ h1
      · rw [Int.max_eq_left (by omega)]; exact List.mem_cons_self
    · rcases List.mem_cons.mp h with rfl | h
      · omega
      · have := h2 y h
        omega
theorem minL_spec : ∀ (x : Int) (r : List Int), minL (x :: r) ∈ x :: r ∧ ∀ y ∈ x :: r, minL (x :: r) ≤ y
  | x, [] => ⟨by simp [minL], fun y h => by simp at h; subst h; exact Int.le_refl _⟩
  | x, z :: r => by
    obtain ⟨h1, h2⟩ := minL_spec z r
    have e : minL (x :: z :: r) = min x (minL (z :: r)) := rfl
    rw [e]
    refine ⟨?_, fun y h => ?_⟩
    · by_cases q : x ≤ minL (z :: r)
      · rw [Int.min_eq_left q]; exact List.mem_cons_self
      · rw [Int.min_eq_right (by omega)]; exact List.mem_cons_of_mem _ h1
    · rcases List.mem_cons.mp h with rfl | h
      · omega
      · have := h2 y h
        omega
theorem sc_max (hc : X.calm = true) : SndC X (.builtin "max") bMax := by
  intro F ρ st xs ws v st' H Q W r h c
  unfold bMax at h
  split at h
  · cases h
    obtain ⟨w, u, rfl, r1, r2⟩ := two_inv r
    cases int_ok r1; cases int_ok r2
    exact wC_of (call_max2 hc) ⟨_, _, rfl, c.here W (rel_int _)⟩
  · cases h
    obtain ⟨w, u, z, rfl, r1, r2, r3⟩ := three_inv r
    cases int_ok r1; cases int_ok r2; cases int_ok r3
    exact wC_of (call_max3 hc) ⟨_, _, _, rfl, c.here W (rel_int _)⟩
  · split at h
    · rename_i xs hx
      split at h
      · rename_i i l hl
        cases h
        obtain ⟨w, rfl, r1⟩ := one_inv r
        obtain ⟨a, vs, rfl, hq, r2⟩ := lst_ok W r1 hx
        have e := r2.intsInv hl
        subst e
        refine wC_of (cr_max hc) ⟨a, i :: l, rfl, .inl (.inl hq), Nat.succ_pos _, fun m h1 h2 => ?_⟩
        obtain ⟨s1, s2⟩ := maxL_spec i l
        have e2 : m = maxL (i :: l) := Int.le_antisymm (s2 m h1) (h2 _ s1)
        rw [e2]
        exact c.here W (rel_int _)
      · cases h
    · cases h
  · cases h
theorem sc_min (hc : X.calm = true) : SndC X (.builtin "min") bMin := by
  intro F ρ st xs ws v st' H Q W r h c
  unfold bMin at h
  split at h
  · cases h
    obtain ⟨w, u, rfl, r1, r2⟩ := two_inv r
    cases int_ok r1; cases int_ok r2
    exact wC_of (call_min2 hc) ⟨_, _, rfl, c.here W (rel_int _)⟩
  · cases h
    obtain ⟨w, u, z, rfl, r1, r2, r3⟩ := three_inv r
    cases int_ok r1; cases int_ok r2; cases int_ok r3
    exact wC_of (call_min3 hc) ⟨_, _, _, rfl, c.here W (rel_int _)⟩
  · split at h
    · rename_i xs hx
      split at h
      · rename_i i l hl
        cases h
        obtain ⟨w, rfl, r1⟩ := one_inv r
        obtain ⟨a, vs, rfl, hq, r2⟩ := lst_ok W r1 hx
        have e := r2.intsInv hl
        subst e
        refine wC_of (cr_min hc) ⟨a, i :: l, rfl, .inl (.inl hq), Nat.succ_pos _, fun m h1 h2 => ?_⟩
        obtain ⟨s1, s2⟩ := minL_spec i l
        have e2 : m = minL (i :: l) := Int.le_antisymm (h2 _ s1) (s2 m h1)
        rw [e2]
        exact c.here W (rel_int _)
      · cases h
    · cases h
  · cases h
theorem sc_tuple : SndC X (.type "tuple") bTuple := by
  intro F ρ st xs ws v st' H Q W r h c
  unfold bTuple at h
  split at h
  · cases h
    obtain ⟨w, rfl, r1⟩ := one_inv r
    obtain ⟨p, vs, rfl, q, r2⟩ := tup_ok W r1
    exact wC_of call_tuple_of ⟨p, vs, rfl, .inr ⟨q, c.here W r1⟩⟩
  · split at h
    · rename_i xs hx
      obtain ⟨w, rfl, r1⟩ := one_inv r
      obtain ⟨a, vs, rfl, hq, r2⟩ := lst_ok W r1 hx
      exact wC_of call_tuple_of ⟨a, vs, rfl, .inl ⟨.inl (.inl hq), (mkT_ok W r2 h c).2⟩⟩
    · cases h
  · cases h
theorem sc_list {m : Bool} : SndC X (.type "list") (bList m) := by
  intro F ρ st xs ws v st' H Q W r h c
  unfold bList at h
  split at h
  · split at h
    · rename_i xs hx
      obtain ⟨w, rfl, r1⟩ := one_inv r
      obtain ⟨a, vs, rfl, hq, r2⟩ := seq_ok W r1 hx
      exact wC_of call_list_of ⟨a, vs, rfl, hq, (mkL_ok W r2 h c).2⟩
    · cases h
  · cases h
theorem sortI_uniq {ns ms : List Int} (hp : ms.Perm ns) (hs : ms.Pairwise (· ≤ ·)) : ms = sortI ns := by
  refine List.Perm.eq_of_pairwise (le := fun a b : Int => a ≤ b) (fun a b _ _ h1 h2 => Int.le_antisymm h1 h2) hs ?_ (hp.trans (List.mergeSort_perm ns _).symm)
  have := List.pairwise_mergeSort (le := fun a b : Int => decide (a ≤ b)) (fun a b c h1 h2 => by simp at h1 h2 ⊢; omega) (fun a b => by simp; omega) ns
  unfold sortI
  refine this.imp fun h => by simpa using h
/-- items with what they are, as values and as data -/
structure SIt where
  p : PV
  w : V
  d : PyData
theorem sits {K : PySem.W.Frag} {F : Hp} {ρ : Nat → Addr} {n : Nat} : ∀ {xs : List PV} {ws : List V} {ds : List PyData}, RelPs K F ρ n xs ws → toDs (fun _ => none) xs = some ds →
    ∃ l : List SIt, l.map SIt.p = xs ∧ l.map SIt.w = ws ∧ l.map SIt.d = ds ∧ ∀ t ∈ l, RelP K F ρ n t.p t.w ∧ t.p.toD (fun _ => none) = some t.d
  | [], _, _, r, h => by
    rw [toDs] at h; cases h
    rw [r.inv0]
    exact ⟨[], rfl, rfl, rfl, fun t (z : t ∈ []) => (by cases z)⟩
  | x :: xs, _, _, r, h => by
    obtain ⟨w, ws, rfl, r1, r2⟩ := r.inv
    rw [toDs] at h
    cases e1 : x.toD (fun _ => none) with
    | none => rw [e1] at h; cases h
    | some d =>
      cases e2 : toDs (fun _ => none) xs with
      | none => rw [e1, e2] at h; cases h
      | some ds =>
        rw [e1, e2] at h; cases h
        obtain ⟨l, h1, h2, h3, h4⟩ := sits r2 e2
        refine ⟨⟨x, w, d⟩ :: l, by rw [List.map_cons, h1], by rw [List.map_cons, h2], by rw [List.map_cons, h3], fun t z => ?_⟩
        rcases List.mem_cons.mp z with rfl | z
        · exact ⟨r1, e1⟩
        · exact h4 t z
theorem each_sits : ∀ {l : List SIt} {us : List Value}, Vals (l.map SIt.w) us → PySem.W.EachIs (fun v (t : SIt) => RelV t.w v) us l
  | [], _, h => by cases h; exact .nil
  | t :: l, _, h => by
    rw [List.map_cons] at h
    cases h with
    | cons h1 h2 => exact .cons h1 (each_sits h2)
theorem sits_each : ∀ {l : List SIt} {us : List Value}, PySem.W.EachIs (fun v (t : SIt) => RelV t.w v) us l → Vals (l.map SIt.w) us
  | [], _, h => by cases h; exact .nil
  | t :: l, _, h => by
    cases h with
    | cons h1 h2 => exact .cons h1 (sits_each h2)
theorem rel_sits {K : PySem.W.Frag} {F : Hp} {ρ : Nat → Addr} {n : Nat} : ∀ {l : List SIt}, (∀ t ∈ l, RelP K F ρ n t.p t.w) → RelPs K F ρ n (l.map SIt.p) (l.map SIt.w)
  | [], _ => .nil
  | t :: l, h => .cons (h t List.mem_cons_self) (rel_sits fun u z => h u (List.mem_cons_of_mem _ z))
theorem leP_sits {l : List SIt} (h : ∀ t ∈ l, t.p.toD (fun _ => none) = some t.d) : (l.map SIt.p).mergeSort leP = (l.mergeSort (PySem.W.dataLe false SIt.d)).map SIt.p := by
  symm
  refine List.map_mergeSort ?_
  intro a ha b hb
  unfold leP
  rw [h a ha, h b hb]
  rw [PySem.W.dataLe_eq]
  rfl
/-- sorted(set(e)), tuples of ints -/
theorem snd_sortedSet {m : Bool} {p p2 pos pos2 : Pos} {e : Expr} {A : DE} (hc : X.calm = true) (hu : X.A.units + 65 < cLine) (hgx : Gl X "sorted") (hmx : X.mg "sorted" = none) (hgy : Gl X "set") (hmy : X.mg "set" = none) (ha : SndA X [e] (aCons A aNil))
    (hs : starEach [e] X.env = (false, eval e X.env) :: starEach [] X.env) : SndE X (.Call (.Name "sorted" p) [.Call (.Name "set" p2) [e] [] pos2] [] pos) (dApp (bSortedSet m) (aCons A aNil)) := by
  intro F ρ env st v st' σ H Q W E h c
  obtain ⟨xs, st1, h1, h⟩ := mb_eq h
  refine wE_of (pe_callB (id := "sorted") cr_w hgx hmx (by decide +kernel) (pa_cons pe_w pa_nil rfl) (by decide +kernel) (by decide +kernel) rfl rfl) ?_
  refine wE_of (pe_callTy (T := "set") cr_w hgy hmy (by decide +kernel) pa_w (by decide +kernel) (by decide +kernel) hs rfl) ?_
  refine ha F ρ env st xs st1 σ H _ W E h1 fun F1 ρ1 w1 H1 p1 r1 => ?_
  unfold bSortedSet at h
  split at h
  · split at h
    · rename_i xs hx
      split at h
      · rename_i ks hk
        split at h
        · rename_i ho
          obtain ⟨h64, d, hd, hb⟩ := okTs_iff.mp ho
          obtain ⟨w, rfl, r2⟩ := one_inv r1
          have W1 := p1.wld
          obtain ⟨a, vs, rfl, hq, r3⟩ := lst_ok W1 r2 hx
          obtain ⟨prs, rfl, rfl, hp⟩ := rel_tups hk r3
          refine wC_of (cr_setOfT hc (by omega)) ⟨a, prs, rfl, .inl (.inl hq), fun q z => W1.sub.sqT (hp q z), by rw [List.length_map] at h64; exact h64, fun b L hbn hL hall => ?_⟩
          have P2 := W1.new (o := SetTO X.prog X.w b L) hbn
          refine wC_of (cr_sortedT hc) ⟨b, L, d, bTup, rfl, upd_same, fun q z => P2.wld.sub.sqT (P2.ex.sqT (hp q (hL q z))), hd, fun q z => hb _ (List.mem_map.mpr ⟨q, hL q z, rfl⟩), fun L' p pm nd h64' pw hn => ?_⟩
          have hm : ∀ q ∈ L', q ∈ prs := fun q z => hL q (pm.mem_iff.mp z)
          have hs : (L'.map (·.2)).Pairwise fun a b => lexLe a b = true := by
            rw [List.pairwise_map]
            refine List.Pairwise.imp_of_mem (fun {u v} hu hv huv => ?_) pw
            obtain ⟨l1, b1⟩ := hb _ (List.mem_map.mpr ⟨u, hm u hu, rfl⟩)
            obtain ⟨l2, b2⟩ := hb _ (List.mem_map.mpr ⟨v, hm v hv, rfl⟩)
            exact lexLe_code (l1.trans l2.symm) b1 b2 huv
          have e := sortT_uniq (ks := uniqT (prs.map (·.2))) (perm_uniqT nd fun x => by
            constructor
            · intro z
              obtain ⟨q, hq2, rfl⟩ := List.mem_map.mp z
              exact List.mem_map.mpr ⟨q, hm q hq2, rfl⟩
            · intro z
              obtain ⟨q, hq2, rfl⟩ := List.mem_map.mp z
              exact (pm.map (·.2)).mem_iff.mpr (hall q hq2)) hs
          rw [← e, List.map_map] at h
          exact (mkL_ok P2.wld (tups_rel fun q z => P2.ex.sqT (hp q (hm q z))) h (Ct.of P2 (Ct.of p1 c))).2 p hn
        · cases h
      · cases h
    · cases h
  · cases h

/-! isinstance -/
theorem sq_ty {K : PySem.W.Frag} {H : Hp} {a : Addr} {vs : List V} (h : SqT K H a vs) : TyX K H (.ref a) (.type "tuple") := by
  rcases h with (h | ⟨o, h⟩) | ⟨o, its, n, h, hc, _⟩
  · exact .base (.tup h)
  · exact .fTuple h
  · exact .kTuple h hc
/-- isinstance of a dict -/
theorem call_isiO {X : Cx} : CallR X (.builtin "isinstance") (fun xs H Q => ∃ (x c : V) (T : String) (u : Value) (b : Bool), xs = [x, c] ∧ ClsV c u ∧ (TyX X.K H x (.type T) ∨ ∃ a ob, x = .ref a ∧ H a = some (dO a ob) ∧ ob.cls = .type "dict" ∧ T = "dict") ∧ PySem.W.kitOne X.K (.type T) u = some b ∧ Q (.bl b) H) := by
  intro pins s σ H xs us Q I r h
  obtain ⟨x, c, T, u, b, rfl, k, ty, e, q⟩ := h
  obtain ⟨u1, u2, rfl, r1, r2⟩ := vals2 r
  have e2 := k.eq r2
  subst e2
  rcases ty with ty | ⟨a, ob, rfl, hH, hc, rfl⟩
  · obtain ⟨P, Z, p, hx⟩ := kit_of I r1 ty
    exact PySem.W.kia_one Z I.kIn p e hx fun tk => ⟨.bl b, H, I.tok tk, rfl, q⟩
  · cases r1
    exact PySem.W.kia_one PySem.W.kitx_dict I.kIn ⟨ob, dO_at I hH, hc⟩ e (fun z => nomatch z) fun tk => ⟨.bl b, H, I.tok tk, rfl, q⟩
theorem isTy_ok {F : Hp} {ρ : Nat → Addr} {st : Sto} {H : Hp} {x : PV} {w : V} {t : BTy} {b : Bool} (W : Wld X.K F ρ st H) (r : RelP X.K F ρ st.nxt x w) (h : isTy t st x = some b) :
    ∃ T : String, (TyX X.K H w (.type T) ∨ ∃ a ob, w = .ref a ∧ H a = some (dO a ob) ∧ ob.cls = .type "dict" ∧ T = "dict") ∧ kitB T t.nameS = some b := by
  unfold isTy at h
  split at h
  · cases h
    rw [non_ok r]
    exact ⟨_, .inl (.base .non), by cases t <;> decide +kernel⟩
  · cases h
    rw [bl_ok r]
    exact ⟨_, .inl (.base (.bl _)), by cases t <;> decide +kernel⟩
  · cases h
    rw [int_ok r]
    exact ⟨_, .inl (.base (.int _)), by cases t <;> decide +kernel⟩
  · cases h
    rw [str_ok r]
    exact ⟨_, .inl (.base (.str _)), by cases t <;> decide +kernel⟩
  · cases h
    obtain ⟨p, vs, rfl, q, r2⟩ := tup_ok W r
    exact ⟨_, .inl (sq_ty q), by cases t <;> decide +kernel⟩
  · cases h
    rw [RelP] at r
    obtain ⟨p, vs, rfl, q, r2⟩ := r
    exact ⟨_, .inl (.base (.lst (W.sub _ _ q))), by cases t <;> decide +kernel⟩
  · cases h
  · rename_i ks vs
    cases h
    obtain ⟨p, ob, kws, vws, rfl, hH, _, _, d⟩ := dct_ok (x := .dct ks vs) W r rfl
    exact ⟨"dict", .inr ⟨p, ob, rfl, hH, d.1.1, rfl⟩, by cases t <;> decide +kernel⟩
  · cases h
  · split at h
    · rename_i l _ _ hl
      cases h
      rw [RelP] at r
      obtain ⟨_, rfl⟩ := r
      obtain ⟨_, vs, e, _⟩ := W.cell l _ hl
      exact ⟨_, .inl (.base (.lst e)), by cases t <;> decide +kernel⟩
    · rename_i l _ ks vs tt hl
      cases h
      rw [RelP] at r
      obtain ⟨_, rfl⟩ := r
      obtain ⟨_, ob, kws, vws, e, _, _, d⟩ := W.cell l _ hl
      exact ⟨"dict", .inr ⟨_, ob, rfl, e, d.1.1, rfl⟩, by cases t <;> decide +kernel⟩
    · cases h
theorem bty_boot (t : BTy) : bootBuiltins t.name = some (.type t.nameS) := by cases t <;> decide +kernel
theorem bty_name (t : BTy) : t.name ≠ "__name__" := by cases t <;> decide +kernel
theorem bty_dbg (t : BTy) : (t.name == ("__debug__" : Str)) = false := by cases t <;> decide +kernel
theorem snd_isi {x : Str} {p p2 : Pos} {t : BTy} (hx : x = "isinstance") (hg : Gl X x) (hm : X.mg x = none) (hg2 : Gl X t.name) (hm2 : X.mg t.name = none) (ha : SndE X a A)
    (he : starEach [a, .Name t.name p2] X.env = (false, eval a X.env) :: starEach [.Name t.name p2] X.env) : SndE X (.Call (.Name x p) [a, .Name t.name p2] [] pos) (dUn (bIsi t) A) := by
  subst hx
  intro F ρ env st v st' σ H Q W E h c
  obtain ⟨z, st1, h1, h⟩ := mb_eq h
  unfold bIsi at h
  cases hb : isTy t st1 z with
  | none => rw [hb] at h; cases h
  | some b =>
    rw [hb] at h; cases h
    have ht : PE X (.Name t.name p2) (tC (.ty t.nameS)) := pe_bltn hg2 hm2 (bty_boot t) rfl (bty_name t) (bty_dbg t)
    refine wE_of (pe_callB call_isiO hg hm (by decide +kernel) (pa_cons pe_w (pa_cons ht pa_nil rfl) he) (by decide +kernel) (by decide +kernel) he rfl) ?_
    refine ha F ρ env st z _ σ H _ W E h1 fun F1 ρ1 w1 H1 p1 r1 => ?_
    obtain ⟨T, ty, k⟩ := isTy_ok p1.wld r1 hb
    exact ⟨w1, _, T, _, b, rfl, .ty _, ty, kit_ty k, (Ct.of p1 c).here p1.wld (rel_bl _)⟩

/-! methods of lists -/
theorem lbs_sub {n : Nat} {xs ys : List PV} (h : ∀ x ∈ ys, x ∈ xs) (q : lbs n xs = true) : lbs n ys = true := by
  rw [lbs_all, List.all_eq_true] at q ⊢
  exact fun x z => q x (h x z)
theorem snd_met0 {id : String} {name : Str} {apos : Pos} {f : Nat → FSem} (slot : Slot "list" name id) (hty : typeOf (.builtin id) = pure (.type "method_descriptor")) (hf : SndM X id f)
    (ha : SndE X a A) (hbase : attributeBase a name X.env (eval a X.env) = eval a X.env) (hline : (apos.endLine == pos.line) = true) : SndE X (.Call (.Attribute a name apos) [] [] pos) (dMetL f A aNil) := by
  intro F ρ env st v st' σ H Q W E h c
  obtain ⟨x, st1, h1, h⟩ := mb_eq h
  obtain ⟨l, st2, h2, h⟩ := mb_eq h
  obtain ⟨rfl, rfl, xs, hl⟩ := asL_eq h2
  have h : f l [] st1 = some (v, st') := h
  refine wE_of (pe_bm0 PySem.F.plainAttrs_list slot hty mr_w pe_w hbase hline) ?_
  refine ha F ρ env st _ st1 σ H _ W E h1 fun F1 ρ1 w1 H1 p1 r1 => ?_
  rw [RelP] at r1
  obtain ⟨_, rfl⟩ := r1
  obtain ⟨_, vs, e, _⟩ := p1.wld.cell l _ hl
  exact ⟨.inl ⟨rfl, vs, .inl (.inl e)⟩, hf F1 ρ1 st1 l [] [] v st' H1 Q p1.wld .nil h (Ct.of p1 c)⟩
theorem snd_met {id : String} {name : Str} {apos : Pos} {es : List Expr} {D : DA} {f : Nat → FSem} (slot : Slot "list" name id) (hty : typeOf (.builtin id) = pure (.type "method_descriptor")) (hf : SndM X id f)
    (ha : SndE X a A) (hes : SndA X (e :: es) D) (hbase : attributeBase a name X.env (eval a X.env) = eval a X.env)
    (hfew : ((backTo pos (starEach (e :: es) X.env)).all (fun x => !x.1) && (backToKw pos (keywordEach [] X.env)).all (fun x => x.1.isSome) && decide ((e :: es).length + ([] : List Keyword).length + (if ([] : List Keyword).isEmpty then 0 else 1) < 30)) = true)
    (hline : (apos.endLine == pos.line) = true) (hs : starEach (e :: es) X.env = (false, eval e X.env) :: starEach es X.env) (hplain : (backTo pos (starEach es X.env)).any (·.1) = false) :
    SndE X (.Call (.Attribute a name apos) (e :: es) [] pos) (dMetL f A D) := by
  intro F ρ env st v st' σ H Q W E h c
  obtain ⟨x, st1, h1, h⟩ := mb_eq h
  obtain ⟨l, st2, h2, h⟩ := mb_eq h
  obtain ⟨rfl, rfl, xs, hl⟩ := asL_eq h2
  obtain ⟨ys, st3, h3, h⟩ := mb_eq h
  refine wE_of (pe_bm PySem.F.plainAttrs_list slot hty mr_w pe_w pa_w hbase hfew hline hs hplain) ?_
  refine ha F ρ env st _ st1 σ H _ W E h1 fun F1 ρ1 w1 H1 p1 r1 => ?_
  have r1' := r1
  rw [RelP] at r1
  obtain ⟨_, rfl⟩ := r1
  obtain ⟨_, vs, e, _⟩ := p1.wld.cell l _ hl
  refine ⟨.inl ⟨rfl, vs, .inl (.inl e)⟩, hes F1 ρ1 env st1 ys st3 σ H1 _ p1.wld (E.step p1) h3 fun F2 ρ2 ws H2 p2 r2 => ?_⟩
  have r3 := r1'.step p2
  rw [RelP] at r3
  rw [r3.2]
  exact hf F2 ρ2 st3 l ys ws v st' H2 Q p2.wld r2 h (Ct.of (p1.trans p2) c)
theorem sm_append : SndM X "list.append" mAppend := by
  intro F ρ st l xs ws v st' H Q W r h c
  unfold mAppend at h
  split at h
  · rename_i y
    split at h
    · rename_i ys hl
      split at h
      · rename_i hz
        cases h
        rw [Bool.and_eq_true, decide_eq_true_eq] at hz
        obtain ⟨w, rfl, r1⟩ := one_inv r
        obtain ⟨_, vs, e, rc⟩ := W.cell l _ hl
        refine wM_of (fun pins s σ H x xs v us Q I r1 r2 h => mt_append pins s σ H x xs v us Q I r1 r2 h) ⟨_, vs, w, rfl, rfl, e, by rw [← rc.length]; exact hz.1, ?_⟩
        refine c _ _ _ _ (W.set hl tick_lst (c := .lst (ys ++ [y])) (by have := st.wc l _ hl; show lbs _ _ = true; rw [lbs_append, lbs_cons, lbs_nil, hz.2, show lbs st.nxt ys = true from this]; rfl) ⟨_, rfl, rc.append (.cons r1 .nil)⟩) rel_non
      · cases h
    · cases h
  · cases h
theorem sm_pop : SndM X "list.pop" mPop := by
  intro F ρ st l xs ws v st' H Q W r h c
  unfold mPop at h
  split at h
  · split at h
    · rename_i ys hl
      split at h
      · rename_i y hy
        cases h
        cases r.inv0
        obtain ⟨_, vs, e, rc⟩ := W.cell l _ hl
        obtain ⟨w, hw, rw'⟩ := rc.get hy
        refine wM_of (fun pins s σ H x xs v us Q I r1 r2 h => mt_pop pins s σ H x xs v us Q I r1 r2 h) ⟨_, vs, w, rfl, rfl, e, by rw [← rc.length]; exact hw, ?_⟩
        exact c _ _ _ _ (W.set hl tick_lst (c := .lst ys.dropLast) (lbs_sub (fun x z => List.dropLast_subset _ z) (st.wc l _ hl)) ⟨_, rfl, rc.dropLast⟩) rw'
      · cases h
    · cases h
  · cases h
theorem sm_reverse : SndM X "list.reverse" mReverse := by
  intro F ρ st l xs ws v st' H Q W r h c
  unfold mReverse at h
  split at h
  · split at h
    · rename_i ys hl
      cases h
      cases r.inv0
      obtain ⟨_, vs, e, rc⟩ := W.cell l _ hl
      refine wM_of (fun pins s σ H x xs v us Q I r1 r2 h => mt_reverse pins s σ H x xs v us Q I r1 r2 h) ⟨_, vs, rfl, rfl, e, ?_⟩
      exact c _ _ _ _ (W.set hl tick_lst (c := .lst ys.reverse) (lbs_sub (fun x z => List.mem_reverse.mp z) (st.wc l _ hl)) ⟨_, rfl, rc.reverse⟩) rel_non
    · cases h
  · cases h

/-! ### calls of the text's own defs -/
/-- the promise: what D computes -/
def spOf (K : PySem.W.Frag) (np : Nat) (D : FSem) : Sp := fun vs H Q _ => vs.length = np ∧ ∃ F ρ st args v st', Wld K F ρ st H ∧ RelPs K F ρ st.nxt args vs ∧ D args st = some (v, st') ∧ Ct K F ρ st H v st' Q
theorem settle_ok {F F1 : Hp} {ρ ρ1 : Nat → Addr} {st st1 st2 : Sto} {H H1 : Hp} {v v' : PV} {w : V} {K : PySem.W.Frag} (p : Pst K F ρ st H F1 ρ1 st1 H1) (r : RelP K F1 ρ1 st1.nxt v w) (h : settle st.nxt v st1 = some (v', st2)) :
    ∃ F2, Pst K F ρ st H F2 ρ1 st2 H1 ∧ RelP K F2 ρ1 st2.nxt v' w := by
  unfold settle at h
  cases e : v.res st.nxt st1.cs with
  | none => rw [e] at h; cases h
  | some u =>
    rw [e] at h; cases h
    obtain ⟨F2, s, p2, f, _⟩ := p.drop rfl
    exact ⟨F2, p2, r.res p.wld s f e⟩
theorem snd_call {x : Str} {p : Pos} {es : List Expr} {D : DA} {f : Addr} {fd : FuncData} {ps : List Str} {k np : Nat} {S : FSem} {adopt : Bool} (G : FnOk X.prog X.w X.K X.mg X.base CX0 k f fd ps (spOf X.K np S)) (hr : Room k X.A) (hg : Gl X x) (hm : X.mg x = some (.ref f)) (hk : PySem.W.keepIn X.K (.ref f) = true) (hb : Binds X.K fd ps [])
    (hnp : (e :: es).length = np) (ha : SndA X (e :: es) D) (hlen : ∀ env st xs st', D env st = some (xs, st') → xs.length = np) (hdb : (x == ("__debug__" : Str)) = false) (he : starEach (e :: es) X.env = (false, eval e X.env) :: starEach es X.env) (hpl : (backTo pos (starEach es X.env)).any (·.1) = false) :
    SndE X (.Call (.Name x p) (e :: es) [] pos) (dCall S adopt D) := by
  intro F ρ env st v st' σ H Q W E h c
  obtain ⟨xs, st1, h1, h⟩ := mb_eq h
  obtain ⟨u, st2, h2, h⟩ := mb_eq h
  refine wE_of (pe_call G hr hg hm hk hb .nil pass0 pa_w hdb he hpl) ?_
  refine ha F ρ env st xs st1 σ H _ W E h1 fun F1 ρ1 ws H1 p1 r1 => ?_
  rw [List.append_nil]
  refine ⟨by rw [← r1.length]; exact hlen _ _ _ _ h1, F1, ρ1, st1, xs, u, st2, p1.wld, r1, h2, fun F2 ρ2 w H2 p2 r2 => ?_⟩
  split at h
  · cases h
    exact c F2 ρ2 w H2 (p1.trans p2) r2
  · obtain ⟨F3, p3, r3⟩ := settle_ok p2 r2 h
    exact c F3 ρ2 w H2 (p1.trans p3) r3
end
end DL

/-! DLM: sorted of a dict, sum, more methods of lists. -/
namespace DL
open PySem PySem.Spec PyProof.Rows L2

mutual
theorem reads_lt {h : Heap} : ∀ {v : Value} {d : PyData} {as : List Addr}, Reads h v d as → ∀ b ∈ as, b < h.objs.size
  | _, _, _, .none, _, z => by cases z
  | _, _, _, .bool _, _, z => by cases z
  | _, _, _, .int _ _, _, z => by cases z
  | _, _, _, .str _ _, _, z => by cases z
  | _, _, _, .list h1 _ _ h4, b, z => by
    rcases List.mem_cons.mp z with rfl | z
    · exact Heap.lt_size h1
    · exact readsAll_lt h4 b z
  | _, _, _, .tuple _ _ _ h4, b, z => readsAll_lt h4 b z
  | _, _, _, .dict h1 _ _ h4 h5, b, z => by
    rcases List.mem_append.mp z with z | z
    · rcases List.mem_cons.mp z with rfl | z
      · exact Heap.lt_size h1
      · exact readsAll_lt h4 b z
    · exact readsAll_lt h5 b z
theorem readsAll_lt {h : Heap} : ∀ {vs : List Value} {ds : List PyData} {as : List Addr}, ReadsAll h vs ds as → ∀ b ∈ as, b < h.objs.size
  | _, _, _, .nil, _, z => by cases z
  | _, _, _, .cons h1 h2, b, z => by
    rcases List.mem_append.mp z with z | z
    · exact reads_lt h1 b z
    · exact readsAll_lt h2 b z
end
section
variable {prog : Program} {w : World} {A : Around} {E : Value → Shared → Prop} {s : Shared} {β : Type} {bs : List β} {enc : β → PyData} {R : Value → β → Prop}
open PySem.W PySem.Calls PyProof.V in
/-- what is collected off a dict, in a heap that has grown -/
theorem collect_dict {T : String} {r d : Addr} {n : Nat} {P : Nat → Value → Prop} {OK : Heap → Prop} {Q : List Value → Shared → Prop} (K : KdlSrc prog w T r d n P OK) (hh : A.handled = none) (hok : OK s.heap) (hn : n ≤ sizeLine)
    (h : ∀ (h' : Heap) (tk : Nat) (acc : Array Value), (∀ b u, s.heap.get? b = some u → h'.get? b = some u) → s.heap.objs.size ≤ h'.objs.size → ItemsOf P acc n → Q acc.toList { s with heap := h', toks := tk }) : wpAny (model prog w) A (collect (.ref r)) Q E s := by
  have hlt := K.there _ hok
  have key := kdl_extend (A := A) (s := { s with heap := s.heap.push { cls := .type "list", data := .seq ([] : List Value).toArray } })
    (R := fun (q : Result) (s' : Shared) => ∃ (h' : Heap) (tk : Nat) (acc' : Array Value) (c' : Nat), q = .ok (.ret (.ref s.heap.objs.size)) ∧ s' = { s with heap := h', toks := tk } ∧
      (∀ b u, s.heap.get? b = some u → h'.get? b = some u) ∧ h'.get? s.heap.objs.size = some { cls := .type "list", dict := none, data := .seq acc' c', slots := #[] } ∧ ItemsOf P acc' n)
    K hh (K.keep _ _ hok fun b _ u q => Heap.get?_push_of_some _ q) s.heap.objs.size (Nat.ne_of_gt hlt.1) (Nat.ne_of_gt hlt.2) (.ref s.heap.objs.size) 0 (Heap.get?_push_size _ rfl)
    (fun h' tk acc' c' hk hS hacc => ⟨h', tk, acc', c', rfl, rfl, fun b u q => hk b u (Nat.ne_of_lt (Heap.lt_size q)) (Heap.get?_push_of_some _ q), hS, hacc⟩) hn
  unfold collect
  refine wpAny_bind (wpAny_runValue (codeAny_builtin entry_proto_collect' ?_))
  rw [Around.under_plainId PySem.F.plain_proto_collect _]
  show wpAny _ A.in1 (newList [] >>= fun l => again (.builtin "list.__iadd__" ⟨[l, .ref r], []⟩)) _ _ s
  refine wpAny_bind (wpAny_newObj_type ?_)
  refine wpAny_pure ⟨plainId_quiet PySem.F.plain_list_iadd _, codeAny_builtin entry_list_iadd' ?_⟩
  rw [Around.under_plainId PySem.F.plain_list_iadd _]
  show wpAny _ A.in1 (Builtin.List.listExtendWith (.ref s.heap.objs.size) (.ref r) (.ref s.heap.objs.size)) _ _ _
  refine wpAny_mono key (fun fin s' x => ?_) fun e s' x => ?_
  · cases fin with
    | done f =>
      obtain ⟨h', tk, acc', c', e, rfl, hk, hS', hacc⟩ := x
      cases e
      show wpAny _ A (load s.heap.objs.size >>= _) _ _ _
      exact wpAny_bind (wpAny_load hS' (wpAny_pure (h h' tk acc' hk (Nat.le_of_lt (Heap.lt_size hS')) hacc)))
    | again c =>
      refine ⟨x.1, codeAny_mono x.2 fun q s2 y => ?_⟩
      obtain ⟨h', tk, acc', c', rfl, rfl, hk, hS', hacc⟩ := y
      show wpAny _ A (load s.heap.objs.size >>= _) _ _ _
      exact wpAny_bind (wpAny_load hS' (wpAny_pure (h h' tk acc' hk (Nat.le_of_lt (Heap.lt_size hS')) hacc)))
  · obtain ⟨_, _, _, _, e', _⟩ := x
    cases e'
open PySem.W PySem.Calls PyProof.V in
theorem sorted_dict {d : Addr} {o : Obj} {es : Array DictEntry} {ep : Nat} {Q : Value → Shared → Prop} (hh : A.handled = none) (lo : (d == sysModules) = false) (hd : s.heap.get? d = some o) (hx : o.ExactDict) (hdat : o.data = .dict es ep) (hn : es.size ≤ sizeLine)
    (e : EachIs R (es.toList.map (·.key)) bs) (er : EachIs (fun v b => ∃ as, Reads s.heap v (enc b) as) (es.toList.map (·.key)) bs) (hal : AllAlike (bs.map enc)) (hk : Sortable (bs.map enc)) (hL : bs.length ≤ sizeLine)
    (hu : ∀ b, b ∈ bs → A.units + 2 + (enc b).depth < cLine)
    (h : ∀ (h' : Heap) (tk : Nat) (D : Addr) (out : List Value), (∀ b u, s.heap.get? b = some u → h'.get? b = some u) → s.heap.objs.size ≤ D → EachIs R out (bs.mergeSort (dataLe false enc)) → (∃ c, h'.get? D = some (seqObj "list" (List.toArray out) c)) → Q (.ref D) { s with heap := h', toks := tk }) :
    wpAny (model prog w) A (call (.builtin "sorted") [.ref d]) Q E s := by
  refine call_function_entry kind_sorted plain_sorted entry_sorted (args_sorted1 _) ?_
  unfold Builtin.«sorted»
  refine wpAny_bind (m := checkCount "sorted" 1 1 _) (wpAny_pure ?_)
  refine wpAny_bind (collect_dict (A := A.in1) (L2.kdl_raw lo hx hdat) hh hd hn fun h' tk acc hk' hsz hacc => ?_)
  have el : acc.toList = es.toList.map (·.key) := by
    apply List.ext_getElem?
    intro j
    rw [List.getElem?_map]
    cases ej : acc.toList[j]? with
    | none =>
      have : acc.toList.length ≤ j := List.getElem?_eq_none_iff.mp ej
      rw [List.getElem?_eq_none (by have := hacc.1; rw [Array.length_toList] at *; omega)]; rfl
    | some v =>
      obtain ⟨en, e1, e2⟩ := hacc.2 j v (by rw [← Array.getElem?_toList]; exact ej)
      rw [Array.getElem?_toList, e1, e2]; rfl
  have hl : acc.toList.length = es.size := by rw [Array.length_toList]; exact hacc.1
  refine wpAny_bind (wpAny_newList ?_ (by rw [hl]; exact hn))
  have hp : ∀ b u, s.heap.get? b = some u → (h'.push { cls := .type "list", data := .seq acc.toList.toArray }).get? b = some u := fun b u q => Heap.get?_push_of_some _ (hk' b u q)
  have er' : EachIs (fun v b => ∃ as, Reads (h'.push { cls := .type "list", data := .seq acc.toList.toArray }) v (enc b) as ∧ h'.objs.size ∉ as) acc.toList bs := by
    have er0 : EachIs (fun v b => ∃ as, Reads (h'.push { cls := .type "list", data := .seq acc.toList.toArray }) v (enc b) as ∧ h'.objs.size ∉ as) (es.toList.map (·.key)) bs := er.mono fun v b ⟨as, r⟩ => ⟨as, Reads.keeps hp r, fun z => absurd (Nat.lt_of_lt_of_le (reads_lt r _ z) hsz) (Nat.lt_irrefl _)⟩
    rw [← el] at er0
    exact er0
  have key := list_sort_data (prog := prog) (w := w) (A := A.in1) (E := E) (s := { s with heap := h'.push { cls := .type "list", data := .seq acc.toList.toArray }, toks := tk }) (a := h'.objs.size) (vs := acc.toList) (n := 0) (R := R) (enc := enc) (bs := bs)
    (Q := fun _ s' => Q (.ref h'.objs.size) s') (Heap.get?_push_size _ rfl) (by rw [el]; exact e) er' hal hk hL (fun b z => by have := hu b z; show A.units + 1 + 1 + (enc b).depth < cLine; omega) fun out ho eo => ?_
  · refine wpAny_bind (wpAny_holding (wpAny_mono key (fun _ s' x => ?_) fun _ _ e => e))
    exact wpAny_pure ⟨_, rfl, x⟩
  · refine h _ tk h'.objs.size out (fun b u q => ?_) hsz eo (sortedHeap_at (n := 0) (Heap.get?_push_size _ rfl))
    have hlt := Heap.lt_size (hk' b u q)
    rw [sortedHeap_old (Nat.ne_of_lt hlt) (by rw [size_push']; exact Nat.lt_succ_of_lt hlt)]
    exact hp b u q
open PySem.W PySem.Calls PyProof.V in
/-- what is collected off a tuple -/
theorem collect_tup {it : Addr} {o : Obj} {items : Array Value} {n : Nat} {Q : List Value → Shared → Prop} (ho : s.heap.get? it = some o) (hc : o.cls = .type "tuple") (hd : o.data = .seq items n) (hsz : items.size ≤ sizeLine)
    (hQ : ∀ h' : Heap, (∀ b o', s.heap.get? b = some o' → h'.get? b = some o') → s.heap.objs.size ≤ h'.objs.size → Q items.toList { s with heap := h' }) : wpAny (model prog w) A (collect (.ref it)) Q E s := by
  unfold collect
  refine wpAny_bind (wpAny_runValue (codeAny_builtin PySem.F.entry_proto_collect ?_))
  rw [Around.under_plainId PySem.F.plain_proto_collect _]
  show wpAny _ A.in1 (newList [] >>= fun l => again (.builtin "list.__iadd__" ⟨[l, .ref it], []⟩)) _ _ s
  refine wpAny_bind (wpAny_newObj_type ?_)
  refine wpAny_pure ⟨plainId_quiet PySem.F.plain_list_iadd _, codeAny_builtin PySem.F.entry_list_iadd ?_⟩
  rw [Around.under_plainId PySem.F.plain_list_iadd _]
  show wpAny _ A.in1 (Builtin.List.listExtendWith (.ref s.heap.objs.size) (.ref it) (.ref s.heap.objs.size)) _ _ _
  have hS : (s.heap.push { cls := .type "list", data := .seq ([] : List Value).toArray }).get? s.heap.objs.size = some { cls := .type "list", data := .seq #[] 0 } := Heap.get?_push_size _ rfl
  have hS₂ := Heap.get?_update_self (Obj.mapSeq (· ++ items)) hS rfl
  have fin' : wpAny (model prog w) A (match Value.ref s.heap.objs.size with
      | Value.ref a => do
        match (← load a).data with
          | Data.seq xs _ => pure xs.toList
          | _ => unsupported "internal:collect"
      | _ => unsupported "internal:collect") Q E { s with heap := (s.heap.push { cls := .type "list", data := .seq ([] : List Value).toArray }).update s.heap.objs.size (Obj.mapSeq (· ++ items)) } := by
    show wpAny _ A (load s.heap.objs.size >>= _) _ _ _
    refine wpAny_bind (wpAny_load hS₂ ?_)
    refine wpAny_pure ?_
    have e : ((#[] : Array Value) ++ items).toList = items.toList := by simp
    show Q ((#[] : Array Value) ++ items).toList _
    rw [e]
    refine hQ _ (fun b o' hb => ?_) ?_
    · exact (Heap.get?_update_other _ _ (Nat.ne_of_gt (Heap.lt_size hb))).trans (Heap.get?_push_of_some _ hb)
    · exact Nat.le_of_lt (Heap.lt_size hS₂)
  refine wpAny_mono (wpAny_extend_seq (hsz := hsz) (A := A) (R := fun r s' => r = .ok (.ret (.ref s.heap.objs.size)) ∧ s' = { s with heap := (s.heap.push { cls := .type "list", data := .seq ([] : List Value).toArray }).update s.heap.objs.size (Obj.mapSeq (· ++ items)) })
    (s := { s with heap := s.heap.push { cls := .type "list", data := .seq ([] : List Value).toArray } }) _ it _ 0 (.inr rfl) hS (Heap.get?_push_of_some _ ho) hc hd ⟨rfl, rfl⟩) (fun fin s' h => ?_) (fun e s' h => ?_)
  · cases fin with
    | done f =>
      obtain ⟨e, rfl⟩ := h
      cases e
      exact fin'
    | again c' => exact ⟨h.1, codeAny_mono h.2 fun r s'' hr => by obtain ⟨rfl, rfl⟩ := hr; exact fin'⟩
  · exact absurd h.1 (by simp)
open PySem.W PySem.Calls PyProof.V in
theorem sorted_tup {d : Addr} {o : Obj} {items : Array Value} {ep : Nat} {Q : Value → Shared → Prop} (hd : s.heap.get? d = some o) (hc : o.cls = .type "tuple") (hdat : o.data = .seq items ep) (hn : items.size ≤ sizeLine)
    (e : EachIs R items.toList bs) (er : EachIs (fun v b => ∃ as, Reads s.heap v (enc b) as) items.toList bs) (hal : AllAlike (bs.map enc)) (hk : Sortable (bs.map enc)) (hL : bs.length ≤ sizeLine)
    (hu : ∀ b, b ∈ bs → A.units + 2 + (enc b).depth < cLine)
    (h : ∀ (h' : Heap) (tk : Nat) (D : Addr) (out : List Value), (∀ b u, s.heap.get? b = some u → h'.get? b = some u) → s.heap.objs.size ≤ D → EachIs R out (bs.mergeSort (dataLe false enc)) → (∃ c, h'.get? D = some (seqObj "list" (List.toArray out) c)) → Q (.ref D) { s with heap := h', toks := tk }) :
    wpAny (model prog w) A (call (.builtin "sorted") [.ref d]) Q E s := by
  refine call_function_entry kind_sorted plain_sorted entry_sorted (args_sorted1 _) ?_
  unfold Builtin.«sorted»
  refine wpAny_bind (m := checkCount "sorted" 1 1 _) (wpAny_pure ?_)
  refine wpAny_bind (collect_tup (A := A.in1) hd hc hdat hn fun h' hk' hsz => ?_)
  refine wpAny_bind (wpAny_newList ?_ (by rw [Array.length_toList]; exact hn))
  have hp : ∀ b u, s.heap.get? b = some u → (h'.push { cls := .type "list", data := .seq items.toList.toArray }).get? b = some u := fun b u q => Heap.get?_push_of_some _ (hk' b u q)
  have er' : EachIs (fun v b => ∃ as, Reads (h'.push { cls := .type "list", data := .seq items.toList.toArray }) v (enc b) as ∧ h'.objs.size ∉ as) items.toList bs := er.mono fun v b ⟨as, r⟩ => ⟨as, Reads.keeps hp r, fun z => absurd (Nat.lt_of_lt_of_le (reads_lt r _ z) hsz) (Nat.lt_irrefl _)⟩
  have key := list_sort_data (prog := prog) (w := w) (A := A.in1) (E := E) (s := { s with heap := h'.push { cls := .type "list", data := .seq items.toList.toArray } }) (a := h'.objs.size) (vs := items.toList) (n := 0) (R := R) (enc := enc) (bs := bs)
    (Q := fun _ s' => Q (.ref h'.objs.size) s') (Heap.get?_push_size _ rfl) e er' hal hk hL (fun b z => by have := hu b z; show A.units + 1 + 1 + (enc b).depth < cLine; omega) fun out ho eo => ?_
  · refine wpAny_bind (wpAny_holding (wpAny_mono key (fun _ s' x => ?_) fun _ _ e => e))
    exact wpAny_pure ⟨_, rfl, x⟩
  · refine h _ s.toks h'.objs.size out (fun b u q => ?_) hsz eo (sortedHeap_at (n := 0) (Heap.get?_push_size _ rfl))
    have hlt := Heap.lt_size (hk' b u q)
    rw [sortedHeap_old (Nat.ne_of_lt hlt) (by rw [size_push']; exact Nat.lt_succ_of_lt hlt)]
    exact hp b u q
end
section
variable {X : Cx}
theorem esr_keys : ∀ {ks : List PV} {kws vws : List V} {es : List DictEntry}, EsR ks kws vws es → Vals kws (es.map (·.key))
  | [], _, _, _, h => by
    obtain ⟨rfl, _, rfl⟩ := h
    exact .nil
  | k :: ks, _, _, _, h => by
    obtain ⟨a, as, b, bs, e, es, rfl, _, rfl, _, h4, _, h⟩ := h
    exact .cons h4 (esr_keys h)
theorem esr_len : ∀ {ks : List PV} {kws vws : List V} {es : List DictEntry}, EsR ks kws vws es → es.length = ks.length
  | [], _, _, _, h => by
    obtain ⟨_, _, rfl⟩ := h
    rfl
  | k :: ks, _, _, _, h => by
    obtain ⟨a, as, b, bs, e, es, _, _, rfl, _, _, _, h⟩ := h
    rw [List.length_cons, List.length_cons, esr_len h]
theorem each_reads {pins : List (Addr × Obj)} {σ : L2.St} {s : Shared} {F : Hp} {ρ : Nat → Addr} {n : Nat} {H : Hp} (I : Inv X pins σ H s) (sub : Sub F H) : ∀ {l : List SIt} {its : List Value}, (∀ t ∈ l, RelP X.K F ρ n t.p t.w ∧ t.p.toD (fun _ => none) = some t.d) → Vals (l.map SIt.w) its → PySem.W.EachIs (fun v (t : SIt) => ∃ as, Reads s.heap v t.d as) its l
  | [], _, _, h => by cases h; exact .nil
  | t :: l, _, hl, h => by
    rw [List.map_cons] at h
    cases h with
    | cons h1 h2 =>
      obtain ⟨q1, q2⟩ := hl t List.mem_cons_self
      exact .cons (Dp.reads I _ _ _ (dp_ok sub q1 q2) h1) (each_reads I sub (fun u z => hl u (List.mem_cons_of_mem _ z)) h2)
theorem sc_sorted {m : Bool} (hc : X.calm = true) (hu : X.A.units + 65 < cLine) : SndC X (.builtin "sorted") (bSorted m) := by
  intro F ρ st xs ws v st' H Q W r h c
  unfold bSorted at h
  split at h
  · split at h
    · rename_i xs hx
      unfold sortGo at h
      split at h
      · rename_i ds hds
        split at h
        · rename_i ho
          obtain ⟨o1, o2, o3, o4⟩ := okSort_iff.mp ho
          obtain ⟨w, rfl, r1⟩ := one_inv r
          obtain ⟨a, vs, rfl, hq, r2⟩ := lst_ok W r1 hx
          obtain ⟨l, rfl, rfl, rfl, hl⟩ := sits r2 hds
          rw [leP_sits fun t z => (hl t z).2] at h
          intro pins s σ us I ru
          obtain ⟨u, rfl, ru1⟩ := vals1 ru
          obtain rfl : u = Value.ref a := ru1
          obtain ⟨hz, its, k, rv, hg⟩ := (show ObjOk X.prog X.w H s.heap a (.lst _) from I.hok a _ hq)
          have er : PySem.W.EachIs (fun v (t : SIt) => ∃ as, Reads s.heap v t.d as) its l := each_reads I W.sub hl rv
          refine PySem.W.sorted_data (enc := SIt.d) ⟨_, hg, rfl, k, rfl⟩ (each_sits rv) er o1 o2 (by rw [List.length_map] at o3; exact o3) (fun b z => by have h30 := o4 b.d (List.mem_map.mpr ⟨b, z, rfl⟩); show X.A.units + 2 + b.d.depth < cLine; omega) fun out ho1 ho2 => ?_
          have hlen : (l.mergeSort (PySem.W.dataLe false SIt.d)).length = l.length := List.length_mergeSort _
          have hlp : ∀ t ∈ l.mergeSort (PySem.W.dataLe false SIt.d), RelP X.K F ρ st.nxt t.p t.w := fun t z => (hl t (List.mem_mergeSort.mp z)).1
          obtain ⟨hw, hq'⟩ := mkL_ok W (rel_sits hlp) h c
          obtain ⟨ep, he'⟩ := PyProof.Rows.sortedAll_at s.heap its (List.toArray out)
          exact ⟨.ref _, upd H (s.heap.objs.size + 1) (.lst ((l.mergeSort (PySem.W.dataLe false SIt.d)).map SIt.w)), I.laid (t' := s.toks) (fun _ _ => PyProof.Rows.sortedAll_old) (Nat.le_succ _) ⟨hw, out, ep, sits_each ho2, he'⟩, rfl, hq' _ (I.hok.fresh (Nat.le_succ _))⟩
        · cases h
      · cases h
    · split at h
      · rename_i ks vs hx
        unfold sortGo at h
        split at h
        · rename_i ds hds
          split at h
          · rename_i ho
            obtain ⟨o1, o2, o3, o4⟩ := okSort_iff.mp ho
            obtain ⟨w, rfl, r1⟩ := one_inv r
            obtain ⟨a, ob, kws, vws, rfl, hq, rk, rv, d⟩ := dct_ok W r1 hx
            obtain ⟨l, rfl, rfl, rfl, hl⟩ := sits rk hds
            rw [leP_sits fun t z => (hl t z).2] at h
            intro pins s σ us I ru
            obtain ⟨u, rfl, ru1⟩ := vals1 ru
            obtain rfl : u = Value.ref a := ru1
            obtain ⟨dx, ⟨es, ep, hdat, he⟩, hs, hsz, nd⟩ := d
            have hek := esr_keys he
            have er : PySem.W.EachIs (fun v (t : SIt) => ∃ as, Reads s.heap v t.d as) (es.toList.map (·.key)) l := each_reads I W.sub hl hek
            refine sorted_dict (I.ok.hd hc) hs (dO_at I hq) dx hdat (by rw [← Array.length_toList, esr_len he]; exact hsz) (each_sits hek) er o1 o2 (by rw [List.length_map] at o3; exact o3) (fun b z => by have h30 := o4 b.d (List.mem_map.mpr ⟨b, z, rfl⟩); omega) fun h' tk D out hk hD ho2 hat => ?_
            have hlp : ∀ t ∈ l.mergeSort (PySem.W.dataLe false SIt.d), RelP X.K F ρ st.nxt t.p t.w := fun t z => (hl t (List.mem_mergeSort.mp z)).1
            obtain ⟨hw, hq'⟩ := mkL_ok W (rel_sits hlp) h c
            exact ⟨.ref _, upd H D (.lst ((l.mergeSort (PySem.W.dataLe false SIt.d)).map SIt.w)), I.laid (t' := tk) hk hD ⟨hw, out, hat.choose, sits_each ho2, hat.choose_spec⟩, rfl, hq' _ (I.hok.fresh hD)⟩
          · cases h
        · cases h
      · split at h
        · rename_i xs
          unfold sortGo at h
          split at h
          · rename_i ds hds
            split at h
            · rename_i ho
              obtain ⟨o1, o2, o3, o4⟩ := okSort_iff.mp ho
              obtain ⟨w, rfl, r1⟩ := one_inv r
              obtain ⟨a, vs, rfl, hq, r2⟩ := tup_ok W r1
              obtain ⟨l, rfl, rfl, rfl, hl⟩ := sits r2 hds
              rw [leP_sits fun t z => (hl t z).2] at h
              intro pins s σ us I ru
              obtain ⟨u, rfl, ru1⟩ := vals1 ru
              obtain rfl : u = Value.ref a := ru1
              obtain ⟨its, rv, ⟨o, g1, g2, m, g3⟩, hz⟩ := I.tuple hq
              have er : PySem.W.EachIs (fun v (t : SIt) => ∃ as, Reads s.heap v t.d as) its l := each_reads I W.sub hl rv
              refine sorted_tup g1 g2 g3 (by have q := Paired.length rv; rw [List.length_map] at q; rw [List.size_toArray, ← q]; simpa using hz) (by simpa using each_sits rv) (by simpa using er) o1 o2 (by rw [List.length_map] at o3; exact o3) (fun b z => by have h30 := o4 b.d (List.mem_map.mpr ⟨b, z, rfl⟩); omega) fun h' tk D out hk hD ho2 hat => ?_
              have hlp : ∀ t ∈ l.mergeSort (PySem.W.dataLe false SIt.d), RelP X.K F ρ st.nxt t.p t.w := fun t z => (hl t (List.mem_mergeSort.mp z)).1
              obtain ⟨hw, hq'⟩ := mkL_ok W (rel_sits hlp) h c
              exact ⟨.ref _, upd H D (.lst ((l.mergeSort (PySem.W.dataLe false SIt.d)).map SIt.w)), I.laid (t' := tk) hk hD ⟨hw, out, hat.choose, sits_each ho2, hat.choose_spec⟩, rfl, hq' _ (I.hok.fresh hD)⟩
            · cases h
          · cases h
        · cases h
  · cases h

theorem ints_map : ∀ {xs : List PV} {ns : List Int}, intsOf xs = some ns → xs = ns.map PV.int
  | [], _, h => by cases h; rfl
  | x :: xs, ns, h => by
    cases x with
    | int i =>
      have h : (intsOf xs).map (i :: ·) = some ns := h
      cases e : intsOf xs with
      | none => rw [e] at h; cases h
      | some m =>
        rw [e] at h; cases h
        rw [List.map_cons, ← ints_map e]
    | _ => cases h
theorem rel_ints {K : PySem.W.Frag} {F : Hp} {ρ : Nat → Addr} {n : Nat} : ∀ {ns : List Int} {ws : List V}, RelPs K F ρ n (ns.map PV.int) ws → ws = ns.map V.int
  | [], _, r => r.inv0
  | i :: ns, _, r => by
    obtain ⟨w, ws, rfl, r1, r2⟩ := r.inv
    rw [int_ok r1, rel_ints r2]; rfl
theorem sc_sum (hc : X.calm = true) : SndC X (.builtin "sum") bSum := by
  intro F ρ st xs ws v st' H Q W r h c
  unfold bSum at h
  split at h
  · split at h
    · rename_i xs hx
      split at h
      · rename_i ns hn
        cases h
        obtain ⟨w, rfl, r1⟩ := one_inv r
        obtain ⟨a, vs, rfl, hq, r2⟩ := lst_ok W r1 hx
        cases ints_map hn
        cases rel_ints r2
        exact wC_of (cr_sum hc) ⟨a, ns, rfl, .inl (.inl hq), c.here W (rel_int _)⟩
      · cases h
    · cases h
  · cases h
theorem RelPs.erase {K : PySem.W.Frag} {F : Hp} {ρ : Nat → Addr} {n : Nat} {xs : List PV} {vs : List V} (r : RelPs K F ρ n xs vs) (k : Nat) : RelPs K F ρ n (xs.eraseIdx k) (vs.eraseIdx k) := by
  rw [List.eraseIdx_eq_take_drop_succ, List.eraseIdx_eq_take_drop_succ]
  exact (r.take k).append (r.drop (k + 1))
theorem sm_popAt : SndM X "list.pop" mPopAt := by
  intro F ρ st l xs ws v st' H Q W r h c
  unfold mPopAt at h
  split at h
  · rename_i i
    split at h
    · rename_i ys hl
      split at h
      · rename_i k hk
        split at h
        · rename_i y hy
          split at h
          · rename_i hr
            cases h
            have hb := okRng_iff.mp hr
            obtain ⟨w, rfl, r1⟩ := one_inv r
            cases int_ok r1
            obtain ⟨_, vs, e, rc⟩ := W.cell l _ hl
            obtain ⟨w, hw, rw'⟩ := rc.get hy
            refine wM_of (fun pins s σ H x xs v us Q I r1 r2 h => mt_popAt pins s σ H x xs v us Q I r1 r2 h) ⟨_, vs, i, k, w, rfl, rfl, e, by omega, by omega, by rw [← rc.length]; exact hk, hw, ?_⟩
            exact c _ _ _ _ (W.set hl tick_lst (c := .lst (ys.eraseIdx k)) (lbs_sub (fun x z => List.mem_of_mem_eraseIdx z) (st.wc l _ hl)) ⟨_, rfl, rc.erase k⟩) rw'
          · cases h
        · cases h
      · cases h
    · cases h
  · cases h
theorem sm_insert : SndM X "list.insert" mInsert := by
  intro F ρ st l xs ws v st' H Q W r h c
  unfold mInsert at h
  split at h
  · rename_i i y
    split at h
    · rename_i ys hl
      split at h
      · rename_i hb
        cases h
        simp only [Bool.and_eq_true, decide_eq_true_eq] at hb
        obtain ⟨⟨⟨h1, h2⟩, h3⟩, h4⟩ := hb
        have hb := okRng_iff.mp h3
        obtain ⟨w1, w2, rfl, r1, r2⟩ := two_inv r
        cases int_ok r1
        obtain ⟨_, vs, e, rc⟩ := W.cell l _ hl
        refine wM_of (fun pins s σ H x xs v us Q I r1 r2 h => mt_insert pins s σ H x xs v us Q I r1 r2 h) ⟨_, vs, i, w2, rfl, rfl, e, by rw [← rc.length]; exact h1, h4, by omega, ?_⟩
        have hw : lbs st.nxt ys = true := st.wc l _ hl
        refine c _ _ _ _ (W.set hl tick_lst (c := .lst (ys.take i.toNat ++ [y] ++ ys.drop i.toNat)) ?_ ⟨_, rfl, ((rc.take i.toNat).append (.cons r2 .nil)).append (rc.drop i.toNat)⟩) rel_non
        show lbs _ _ = true
        rw [lbs_append, lbs_append, lbs_cons, lbs_nil, h2, lbs_sub (fun x z => List.take_subset _ _ z) hw, lbs_sub (fun x z => List.drop_subset _ _ z) hw]; rfl
      · cases h
    · cases h
  · cases h
theorem sm_extend : SndM X "list.extend" mExtend := by
  intro F ρ st l xs ws v st' H Q W r h c
  unfold mExtend at h
  split at h
  · rename_i y
    split at h
    · rename_i ys hl
      split at h
      · rename_i zs hz
        split at h
        · rename_i hb
          cases h
          rw [Bool.and_eq_true, decide_eq_true_eq] at hb
          obtain ⟨w, rfl, r1⟩ := one_inv r
          obtain ⟨b, vs2, rfl, hq, r2⟩ := lst_ok W r1 hz
          obtain ⟨_, vs, e, rc⟩ := W.cell l _ hl
          have hw : lbs st.nxt ys = true := st.wc l _ hl
          refine wM_of (fun pins s σ H x xs v us Q I r1 r2 h => mt_extend pins s σ H x xs v us Q I r1 r2 h) ⟨_, b, vs, vs2, rfl, rfl, e, hq, by rw [← rc.length, ← r2.length]; exact hb.1, ?_⟩
          refine c _ _ _ _ (W.set hl tick_lst (c := .lst (ys ++ zs)) ?_ ⟨_, rfl, rc.append r2⟩) rel_non
          show lbs _ _ = true
          rw [lbs_append, hw, hb.2]; rfl
        · cases h
      · cases h
    · cases h
  · cases h
end
end DL

/-! DLI: walking over the keys of a dict that nobody changes. -/
namespace DL
open PySem PySem.Spec PyProof.Rows L2

/-- the keys of the dict at a, in their order -/
def ItkO (a : Addr) (ob : Obj) (kws : List V) : It :=
  ⟨fun i H => H a = some (dO a ob) ∧ i < kws.length, fun i H x H' => H' = H ∧ kws[i]? = some x, fun i H => H a = some (dO a ob) ∧ kws.length ≤ i⟩
theorem turn_keysO {P : Program} {w : World} {K : PySem.W.Frag} {tg : Expr} {a : Addr} {ob : Obj} {es : Array DictEntry} {ep : Nat} {kws : List V} (it : Addr) (hod : ob.data = .dict es ep) (hk : Vals kws (es.toList.map (·.key))) : Turn P w K tg (ItkO a ob kws) [it] it (fun i h => h.IsKeyIter it a i es.size ep) where
  mem := by simp
  obj := fun i h st b hb => by
    have e : b = it := by simpa using hb
    subst e
    obtain ⟨oi, e, c, dd⟩ := st
    exact ⟨oi, e, fun v z => by rw [dd] at z; cases z⟩
  keep := fun i h h' st k => st.at fun oi e => k it (by simp) oi e
  item := by
    intro X hP hw hK hc i pins s σ H E I hf st hg
    subst hP hw hK
    obtain ⟨hd, hi⟩ := hg
    obtain ⟨f0, f1, f2, f3, f4, f5⟩ := hf it (by simp)
    have hgd := dO_at I hd
    have hl : kws.length = es.size := by
      have h := Paired.length hk
      rw [List.length_map, Array.length_toList] at h
      exact h
    have hi2 : i < es.size := by omega
    have hen : es[i]? = some es[i] := Array.getElem?_eq_getElem hi2
    obtain ⟨u, hu, ru⟩ := hk.get (List.getElem?_eq_getElem hi)
    rw [List.getElem?_map, Array.getElem?_toList, hen] at hu
    cases hu
    refine next_key_item st hgd hod rfl hen fun h' st' sb => ?_
    have I1 : Inv X pins σ H { s with heap := h' } := I.turned (t' := s.toks) (fun b ob hb e => (sb.2 b hb).trans e) f0 f1 f3 f4 f5
    obtain ⟨oi, e, c, dd⟩ := id st'
    exact ⟨_, rfl, go_of (s := { s with heap := h' }) e c dd (by decide) ⟨kws[i], H, I1, ru, ⟨rfl, List.getElem?_eq_getElem hi⟩, st', fun b hb => (hf b hb).1⟩⟩
  done := by
    intro X hP hw hK hc i pins s σ H E I hf st hg
    subst hP hw hK
    obtain ⟨hd, hi⟩ := hg
    obtain ⟨f0, f1, f2, f3, f4, f5⟩ := hf it (by simp)
    have hgd := dO_at I hd
    have hl : kws.length = es.size := by
      have h := Paired.length hk
      rw [List.length_map, Array.length_toList] at h
      exact h
    exact next_key_end (I.ok.hd hc) st hgd hod rfl (by omega) fun h' eb => ⟨rfl, I.turned (t' := s.toks) (fun b ob hb e => eb b ob hb e) f0 f1 f3 f4 f5⟩
  self := fun A i s Q E st h => by
    refine wpAny_pyIter_slot st.typeIs F.slot_dict_keyiterator_iter (wpAny_call_entry F.slot_dict_keyiterator_iter st.typeIs F.entry_dict_keyiterator_iter ?_ (F.args_dict_keyiterator_iter_1 _))
    show wpAny _ _ (ret (.ref it)) _ _ s
    exact wpAny_pure ⟨_, rfl, "dict_keyiterator", _, st.typeIs, F.slot_dict_keyiterator_next.lookup, h⟩
def iKeysO (td : TE) : TI := fun σ H R => td σ H fun x H1 => ∃ (a : Addr) (ob : Obj) (kws : List V) (es : Array DictEntry) (ep : Nat), x = .ref a ∧ H1 a = some (dO a ob) ∧ ob.ExactDict ∧ (a == sysModules) = false ∧ ob.data = .dict es ep ∧ Vals kws (es.toList.map (·.key)) ∧ R (ItkO a ob kws) H1
theorem pi_keysO {X : Cx} {tg e : Expr} {td : TE} (he : PE X e td) : PI X tg e (iKeysO td) := by
  refine ⟨fun pins s σ H R I h => ?_⟩
  refine thn (he.run pins s σ H _ I h) fun u s1 ⟨x, H1, I1, rx, a, ob, kws, es, ep, ex, hd, hx, hs, hdt, hv, q⟩ => ?_
  subst ex
  obtain rfl : u = Value.ref a := rx
  exact iter_keys hs (dO_at I1 hd) hx hdt (pi_one (tk := s1.toks) I1 _ (turn_keysO _ hdt hv) ⟨_, Heap.get?_push_size _ rfl, rfl, rfl⟩ q)
/-! pairs -/
/-- the pairs of the dict at a, each a new tuple -/
def ItiO (a : Addr) (ob : Obj) (kws vws : List V) : It :=
  ⟨fun i H => H a = some (dO a ob) ∧ i < kws.length, fun i H x H' => ∃ (T : Addr) (k v : V), kws[i]? = some k ∧ vws[i]? = some v ∧ x = .ref T ∧ H T = none ∧ H' = upd H T (.tup [k, v]), fun i H => H a = some (dO a ob) ∧ kws.length ≤ i⟩
theorem esr_vals : ∀ {ks : List PV} {kws vws : List V} {es : List DictEntry}, EsR ks kws vws es → Vals vws (es.map (·.val))
  | [], _, _, _, h => by
    obtain ⟨_, rfl, rfl⟩ := h
    exact .nil
  | k :: ks, _, _, _, h => by
    obtain ⟨a, as, b, bs, e, es, _, rfl, rfl, _, _, h5, h⟩ := h
    exact .cons h5 (esr_vals h)
theorem turn_itemsO {P : Program} {w : World} {K : PySem.W.Frag} {a : Addr} {ob : Obj} {es : Array DictEntry} {ep : Nat} {kws vws : List V} {elts : List Expr} {kk : Nat} {tpos : Pos} (it : Addr) (hx : ob.ExactDict) (hod : ob.data = .dict es ep) (hk : Vals kws (es.toList.map (·.key))) (hv : Vals vws (es.toList.map (·.val))) :
    Turn P w K (.Tuple elts kk tpos) (ItiO a ob kws vws) [it] it (fun i h => ∃ ok ov, IsItemIter h it a i es.size ep ok ov) where
  mem := by simp
  obj := fun i h st b hb => by
    have e : b = it := by simpa using hb
    subst e
    obtain ⟨ok, ov, e⟩ := st
    exact ⟨_, e, fun v z => nomatch z⟩
  keep := fun i h h' st k => let ⟨ok, ov, e⟩ := st; ⟨ok, ov, k it (by simp) _ e⟩
  item := by
    intro X hP hw hK hc i pins s σ H E I hf st hg
    subst hP hw hK
    obtain ⟨hd, hi⟩ := hg
    have hgd := dO_at I hd
    have hl : kws.length = es.size := by
      have h := Paired.length hk
      rw [List.length_map, Array.length_toList] at h
      exact h
    have hl2 : vws.length = es.size := by
      have h := Paired.length hv
      rw [List.length_map, Array.length_toList] at h
      exact h
    have hi2 : i < es.size := by omega
    have hi3 : i < vws.length := by omega
    have hen : es[i]? = some es[i] := Array.getElem?_eq_getElem hi2
    obtain ⟨u, hu, ru⟩ := hk.get (List.getElem?_eq_getElem hi)
    rw [List.getElem?_map, Array.getElem?_toList, hen] at hu
    cases hu
    obtain ⟨u2, hu2, ru2⟩ := hv.get (List.getElem?_eq_getElem hi3)
    rw [List.getElem?_map, Array.getElem?_toList, hen] at hu2
    cases hu2
    obtain ⟨ok, ov, he⟩ := st
    have hlt : it < s.heap.objs.size := Heap.lt_size he
    refine wpAny_pyNext_items_item_raw he ⟨ob, hgd, hx, hod⟩ hi2 fun h' ho hT hz hkp => ?_
    refine ⟨_, rfl, wpAny_letOwnedTupleGo_items (s := { s with heap := h' }) ho fun h'' he' sb => ?_⟩
    have hT2 : h''.get? s.heap.objs.size = some { cls := .type "tuple", data := .seq #[es[i].key, es[i].val] } := (sb.2 _ (Nat.ne_of_gt hlt)).trans hT
    have new : ObjOk X.prog X.w (upd H s.heap.objs.size (.tup [kws[i], vws[i]])) h'' s.heap.objs.size (.tup [kws[i], vws[i]]) :=
      ⟨by show 2 ≤ sizeLine; decide, [es[i].key, es[i].val], .cons ru (.cons ru2 .nil), ⟨_, hT2, rfl, _, rfl⟩⟩
    have I1 : Inv X pins σ (upd H s.heap.objs.size (.tup [kws[i], vws[i]])) { s with heap := h'' } :=
      I.turnedNew (t' := s.toks) (ch := [it]) (fun b ob hb e => (sb.2 b (by simpa using hb)).trans (hkp b ob (by simpa using hb) e)) hf (Nat.le_refl _) new
    refine ⟨.ref s.heap.objs.size, _, I1, rfl, ⟨_, _, _, List.getElem?_eq_getElem hi, List.getElem?_eq_getElem hi3, rfl, I.hok.fresh (Nat.le_refl _), rfl⟩, ⟨es[i].key, es[i].val, he'⟩, fun b hb => ?_⟩
    have e : b = it := by simpa using hb
    rw [e, upd_ne (Nat.ne_of_lt hlt)]
    exact (hf it (by simp)).1
  done := by
    intro X hP hw hK hc i pins s σ H E I hf st hg
    subst hP hw hK
    obtain ⟨hd, hi⟩ := hg
    obtain ⟨f0, f1, f2, f3, f4, f5⟩ := hf it (by simp)
    have hgd := dO_at I hd
    have hl : kws.length = es.size := by
      have h := Paired.length hk
      rw [List.length_map, Array.length_toList] at h
      exact h
    obtain ⟨ok, ov, he⟩ := st
    exact wpAny_pyNext_items_end_raw (I.ok.hd hc) he ⟨ob, hgd, hx, hod⟩ (by omega) fun h' eb => ⟨rfl, I.turned (t' := s.toks) (fun b ob hb e => eb b ob hb e) f0 f1 f3 f4 f5⟩
  self := fun A i s Q E st h => let ⟨_, _, e⟩ := st; PySem.W.kcp_self e h
def iItemsO (td : TE) : TI := fun σ H R => td σ H fun x H1 => ∃ (a : Addr) (ob : Obj) (kws vws : List V) (es : Array DictEntry) (ep : Nat), x = .ref a ∧ H1 a = some (dO a ob) ∧ ob.ExactDict ∧ (a == sysModules) = false ∧ ob.data = .dict es ep ∧ Vals kws (es.toList.map (·.key)) ∧ Vals vws (es.toList.map (·.val)) ∧ R (ItiO a ob kws vws) H1
theorem pi_itemsO {X : Cx} {e : Expr} {td : TE} {apos cpos : Pos} {elts : List Expr} {kk : Nat} {tpos : Pos} (he : PE X e td) (hbase : attributeBase e "items" X.env (eval e X.env) = eval e X.env) (hline : (apos.endLine == cpos.line) = true) :
    PI X (.Tuple elts kk tpos) (.Call (.Attribute e "items" apos) [] [] cpos) (iItemsO td) := by
  refine ⟨fun pins s σ H R I h => ?_⟩
  refine wpAny_Call_method (T := "dict") (id := "dict.items") hbase rfl hline F.plainAttrs_dict F.slot_dict_items F.type_dict_items (thn (he.run pins s σ H _ I h) fun u s1 ⟨x, H1, I1, rx, a, ob, kws, vws, es, ep, ex, hd, hx, hs, hdt, hv, hw, q⟩ => ?_)
  subst ex
  obtain rfl : u = Value.ref a := rx
  have hgd := dO_at I1 hd
  have hraw : s1.heap.DictRaw a es ep := ⟨ob, hgd, hx, hdt⟩
  refine ⟨⟨ob, hgd, hx.1⟩, fun b q => by cases q; exact ⟨ob, hgd, hx.2.1⟩, ?_⟩
  have I2 : Inv X pins σ H1 { s1 with heap := s1.heap.push { cls := .type "dict_items", data := .fields #[.ref a] } } := I1.kept (t' := s1.toks) fun b ob q => Heap.get?_push_of_some _ q
  have hraw2 : (s1.heap.push { cls := .type "dict_items", data := .fields #[.ref a] }).DictRaw a es ep := ⟨ob, Heap.get?_push_of_some _ hgd, hx, hdt⟩
  have fin : wpAny (model X.prog X.w) X.A (pyIter (.ref s1.heap.objs.size)) (PIE X pins σ (.Tuple elts kk tpos) R) X.xe { s1 with heap := s1.heap.push { cls := .type "dict_items", data := .fields #[.ref a] } } := by
    refine wpAny_pyIter_items_raw (d := a) ⟨_, Heap.get?_push_size _ rfl, rfl, rfl⟩ hraw2 (pi_one (tk := s1.toks) I2 _ (turn_itemsO _ hx hdt hv hw) ⟨.none, .none, ?_⟩ q)
    exact Heap.get?_push_size _ rfl
  show wpAny _ _ (callWith cpos (.builtin "dict.items") [.ref a] [] []) _ X.xe s1
  exact method_meetsIn F.slot_dict_items F.entry_dict_items rfl (PySem.evalArgs_none ⟨rfl, ⟨ob, hgd, hx.1⟩, F.args_dict_items_1 _, _, meets_dict_items_raw a hs, ⟨⟨es, ep, hraw⟩, fin⟩⟩)
end DL

/-! DLN: enumerate over a tuple. -/
namespace DL
open PySem PySem.Spec PyProof.Rows L2

section
variable {prog : Program} {w : World} {A : Around} {E : Value → Shared → Prop} {s : Shared}
theorem nextT_item {it t : Addr} {i : Nat} {items : Array Value} {x : Value} {Q : Value → Shared → Prop} (hit : s.heap.IsTupleIter it t i) (ht : s.heap.IsTuple t items) (hx : items[i]? = some x)
    (hQ : ∀ h', h'.IsTupleIter it t (i + 1) → Heap.SameBut it s.heap h' → Q x { s with heap := h' }) : wpAny (model prog w) A (Builtin.SmallTypes.nextOf (.ref it)) Q E s := by
  obtain ⟨oi, hi, ci, di⟩ := id hit
  obtain ⟨ot, hot, _, nt, dt⟩ := ht
  unfold Builtin.SmallTypes.nextOf
  refine wpAny_bind (wpAny_callSpecial?_slot (name := Str.ofString "__next__") hit.typeIs PySem.F.slot_tuple_iterator_next (wpAny_call_entry PySem.F.slot_tuple_iterator_next hit.typeIs PySem.F.entry_tuple_iterator_next ?_ (PySem.F.args_tuple_iterator_next_1 _)))
  show wpAny _ _ (field (.ref it) 0 >>= _) _ _ s
  refine wpAny_bind (wpAny_field hi di (x := .ref t) rfl ?_)
  show wpAny _ _ (if (Value.ref t == Value.none) = true then _ else _) _ _ s
  rw [if_neg (show ¬ ((Value.ref t == Value.none) = true) from Bool.false_ne_true)]
  show wpAny _ _ (field (.ref it) 1 >>= _) _ _ s
  refine wpAny_bind (wpAny_field hi di (x := .int i 0) rfl ?_)
  show wpAny _ _ (seqItems? (.ref t) >>= _) _ _ s
  refine wpAny_bind (wpAny_seqItems hot dt ?_)
  simp only [Int.toNat_natCast, hx]
  refine wpAny_bind (wpAny_setField hi di (by simp) (wpAny_pure ⟨x, rfl, wpAny_pure (hQ _ ?_ (Heap.SameBut.update ..))⟩))
  exact ⟨_, Heap.get?_update_self _ hi (Obj.isFreed_of_fields (Obj.data_mapFields di _)), (Obj.cls_mapFields ..).trans ci, by rw [Obj.data_mapFields di]; simp [rawInt]⟩
theorem nextT_end {it t : Addr} {i : Nat} {items : Array Value} {Q : Value → Shared → Prop} (hh : A.handled = none) (hit : s.heap.IsTupleIter it t i) (ht : s.heap.IsTuple t items) (hx : items[i]? = none)
    (hE : ∀ h' e, Heap.ExtBut it s.heap h' → (∃ o, h'.get? e = some o ∧ o.cls = .type "StopIteration") → E (.ref e) { s with heap := h' }) : wpAny (model prog w) A (Builtin.SmallTypes.nextOf (.ref it)) Q E s := by
  obtain ⟨oi, hi, ci, di⟩ := id hit
  obtain ⟨ot, hot, _, nt, dt⟩ := ht
  unfold Builtin.SmallTypes.nextOf
  refine wpAny_bind (wpAny_callSpecial?_slot (name := Str.ofString "__next__") hit.typeIs PySem.F.slot_tuple_iterator_next (wpAny_call_entry PySem.F.slot_tuple_iterator_next hit.typeIs PySem.F.entry_tuple_iterator_next ?_ (PySem.F.args_tuple_iterator_next_1 _)))
  show wpAny _ _ (field (.ref it) 0 >>= _) _ _ s
  refine wpAny_bind (wpAny_field hi di (x := .ref t) rfl ?_)
  show wpAny _ _ (if (Value.ref t == Value.none) = true then _ else _) _ _ s
  rw [if_neg (show ¬ ((Value.ref t == Value.none) = true) from Bool.false_ne_true)]
  show wpAny _ _ (field (.ref it) 1 >>= _) _ _ s
  refine wpAny_bind (wpAny_field hi di (x := .int i 0) rfl ?_)
  show wpAny _ _ (seqItems? (.ref t) >>= _) _ _ s
  refine wpAny_bind (wpAny_seqItems hot dt ?_)
  simp only [Int.toNat_natCast, hx]
  refine wpAny_bind (wpAny_rule (wpAny_bind (wpAny_setField hi di (by simp) ?_)))
  show wpAny _ _ (newExc (.type "StopIteration") [] >>= _) _ _ _
  refine wpAny_bind ?_
  simp only [newExc, newTuple]
  refine wpAny_bind (wpAny_newObj_type ?_ (by size_fits))
  refine wpAny_bind (m := firstArgMember _ _) (wpAny_of_eq (a := Value.none) (by first | rfl | (simp only [firstArgMember]; rfl)) ?_)
  refine wpAny_newObj_type ?_ (by size_fits)
  simp only [raiseNew]
  refine wpAny_bind (wpAny_handled ?_)
  first | rw [show A.in1.handled = none from hh] | rw [hh]
  refine wpAny_bind (wpAny_pure (wpAny_throw ?_))
  exact hE _ _ (((Heap.SameBut.update ..).extBut.push _).push _) ⟨_, Heap.get?_push_size _ rfl, rfl⟩
end
theorem drawsT {prog : Program} {w : World} {A : Around} (hh : A.handled = none) (it t : Addr) (hne : t ≠ it) (items : Array Value) :
    Draws prog w A it [it, t] items.size (fun i v => items[i]? = some v) (fun i h => h.IsTupleIter it t i ∧ h.IsTuple t items) where
  live := fun _ _ st => let ⟨o, ho, _⟩ := st.1; ⟨o, ho⟩
  frame := fun _ _ _ st hk => by
    obtain ⟨⟨o, ho, r⟩, o2, ho2, r2⟩ := st
    exact ⟨⟨o, hk it (by simp) o ho, r⟩, o2, hk t (by simp) o2 ho2, r2⟩
  item := fun i s Q E hi st hQ => by
    refine nextT_item st.1 st.2 (x := items[i]) (by simp [hi]) fun h' hit' hs' => ?_
    obtain ⟨_, o2, ho2, r2⟩ := st
    exact hQ _ h' s.toks (by simp [hi]) ⟨hit', o2, hs'.extBut t o2 hne ho2, r2⟩ hs'
  done := fun s Q E st hE => nextT_end hh st.1 st.2 (by simp) hE
/-! making one -/
theorem enum_newT (l : Addr) (items : Array Value) (n : Nat) (dct : Option Addr) (sl : Array (Option Value)) :
    Meets (Builtin.«enumerate.__new__» ⟨[.type "enumerate", .ref l], []⟩) (fun _ R s => s.heap.get? l = some { cls := .type "tuple", dict := dct, data := .seq items n, slots := sl } ∧
      R (.ok (.ret (.ref (s.heap.push { cls := .type "tuple_iterator", data := .fields #[.ref l, .int 0 0] }).objs.size)))
        { s with heap := (s.heap.push { cls := .type "tuple_iterator", data := .fields #[.ref l, .int 0 0] }).push { cls := .type "enumerate", data := .fields #[.none, .bool false, .ref s.heap.objs.size, rawInt 0, .none, .none] } }) :=
  .of_wp fun prog w A R s h => by
    obtain ⟨hp, g, d, tk, os⟩ := s; obtain ⟨hl, h⟩ := h
    have hsub := sub_enumerate
    have hT : Heap.IsTuple (Shared.heap ⟨hp, g, d, tk, os⟩) l items := ⟨_, hl, rfl, n, rfl⟩
    wp_walk using wpAny_loadPart' hl
    refine wpAny_stack_any fun st => wpAny_pure ?_
    split
    · rename_i c _ _ _ _ _
      cases (c == Value.type "enumerate")
      · wp_walk using wpAny_loadPart' hl, wpAny_pyIter_tuple hT
        exact ⟨_, rfl, h⟩
      · wp_walk using wpAny_loadPart' hl, wpAny_pyIter_tuple hT
        exact ⟨_, rfl, h⟩
    · wp_walk using wpAny_loadPart' hl, wpAny_pyIter_tuple hT
      exact ⟨_, rfl, h⟩
section
variable {prog : Program} {w : World} {A : Around} {E : Value → Shared → Prop} {s : Shared}
theorem call_enumT {l : Addr} {items : Array Value} {Q : Value → Shared → Prop} (hL : s.heap.IsTuple l items)
    (h : ∀ h', IsEnum h' (s.heap.objs.size + 1) s.heap.objs.size 0 .none → h'.IsTupleIter s.heap.objs.size l 0 → h'.objs.size = s.heap.objs.size + 2 →
      (∀ b o, s.heap.get? b = some o → h'.get? b = some o) → Q (.ref (s.heap.objs.size + 1)) { s with heap := h' }) :
    wpAny (model prog w) A (call (.type "enumerate") [.ref l]) Q E s := by
  obtain ⟨⟨c, dct, dt, sl⟩, hl, hc, n, hd⟩ := hL
  replace hc : c = .type "tuple" := hc
  replace hd : dt = .seq items n := hd
  subst hc hd
  refine callType_new PySem.F.called_enumerate (by decide) (PySem.F.typeCall_enumerate_1 _) (PySem.F.newCall_enumerate_1 _) (fun obj => PySem.F.args_object_init_2 obj _) PySem.F.entry_enumerate_new (enum_newT l items n dct sl) ⟨hl, ?_⟩
  have hz : (s.heap.push { cls := .type "tuple_iterator", data := .fields #[.ref l, .int 0 0] }).objs.size = s.heap.objs.size + 1 := Heap.size_push ..
  show _ ∧ _
  rw [hz]
  have he : IsEnum ((s.heap.push { cls := .type "tuple_iterator", data := .fields #[.ref l, .int 0 0] }).push { cls := .type "enumerate", data := .fields #[.none, .bool false, .ref s.heap.objs.size, rawInt 0, .none, .none] }) (s.heap.objs.size + 1) s.heap.objs.size 0 .none := by
    have q := Heap.get?_push_size (s.heap.push { cls := .type "tuple_iterator", data := .fields #[.ref l, .int 0 0] }) (o := { cls := .type "enumerate", data := .fields #[.none, .bool false, .ref s.heap.objs.size, rawInt 0, .none, .none] }) rfl
    rw [hz] at q; exact q
  refine ⟨⟨_, he, rfl⟩, h _ he ⟨_, Heap.get?_push_of_some _ (Heap.get?_push_size _ rfl), rfl, rfl⟩ (by rw [Heap.size_push, hz]) fun b o x => Heap.get?_push_of_some _ (Heap.get?_push_of_some _ x)⟩
end
/-- the tuple at a, its items in new pairs -/
def IteT (K : PySem.W.Frag) (a : Addr) : It :=
  ⟨fun i H => ∃ (xs : List V) (x : V), SqT K H a xs ∧ xs[i]? = some x, fun i H v H' => ∃ T x, v = .ref T ∧ H T = none ∧ H' = upd H T (.tup [.int (i : Nat), x]) ∧ ∀ xs, SqT K H a xs → xs[i]? = some x, fun i H => ∃ xs : List V, SqT K H a xs ∧ xs.length ≤ i⟩
theorem turn_enumT {P : Program} {w : World} {K : PySem.W.Frag} {elts : List Expr} {kk : Nat} {tpos : Pos} (a e it : Addr) :
    Turn P w K (.Tuple elts kk tpos) (IteT K a) [e, it] e (fun i h => (∃ old, IsEnum h e it ((i : Nat) : Int) old) ∧ h.IsTupleIter it a i ∧ e ≠ it ∧ a ≠ it ∧ a ≠ e) where
  mem := by simp
  obj := fun i h st b hb => by
    obtain ⟨⟨old, he⟩, ⟨o, ho, hc, hd⟩, _⟩ := st
    have e' : b = e ∨ b = it := by simpa using hb
    rcases e' with z | z
    · rw [z]; exact ⟨_, he, fun v q => nomatch q⟩
    · rw [z]; exact ⟨o, ho, fun v q => by rw [hd] at q; cases q⟩
  keep := fun i h h' st k => by
    obtain ⟨⟨old, he⟩, ⟨o, ho, r⟩, hne⟩ := st
    exact ⟨⟨old, k e (by simp) _ he⟩, ⟨o, k it (by simp) o ho, r⟩, hne⟩
  item := by
    intro X hP hw hK hc i pins s σ H E I hf st hg
    subst hP hw hK
    obtain ⟨⟨old, he⟩, hit, hne, hai, hae⟩ := st
    obtain ⟨xs, x, hq, hx⟩ := hg
    obtain ⟨its, rv, p, hz⟩ := I.tuple hq
    obtain ⟨u, hu, ru⟩ := rv.get hx
    have hel : e < s.heap.objs.size := Heap.lt_size he
    have hil : it < s.heap.objs.size := by obtain ⟨_, q, _⟩ := hit; exact Heap.lt_size q
    have hlen := rv.length
    have hi : i < its.toArray.size := by rw [List.size_toArray, ← hlen]; exact (List.getElem?_eq_some_iff.mp hx).1
    refine wpAny_pyNext_enum_itemD (drawsT (prog := X.prog) (w := X.w) (A := X.A.in1) (show X.A.in1.handled = none from I.ok.hd hc) it a hai its.toArray) he ⟨hit, (show s.heap.IsTuple a its.toArray from p)⟩ hi hne (by simp [hne, Ne.symm hae]) fun y h' tk hP ho hS hT hsz hk => ?_
    have hy : y = u := by
      have z : its.toArray[i]? = some y := hP
      rw [List.getElem?_toArray, hu] at z
      exact (Option.some.inj z).symm
    subst hy
    refine ⟨_, rfl, wpAny_letOwnedTupleGo_enum (s := { s with heap := h', toks := tk + 1 }) ho fun h'' he' sb => ?_⟩
    have hT2 : h''.get? s.heap.objs.size = some { cls := .type "tuple", data := .seq #[.int i tk, y] } := (sb.2 _ (Nat.ne_of_gt hel)).trans hT
    have new : ObjOk X.prog X.w (upd H s.heap.objs.size (.tup [.int (i : Nat), x])) h'' s.heap.objs.size (.tup [.int (i : Nat), x]) :=
      ⟨by show 2 ≤ sizeLine; decide, [.int i tk, y], .cons ⟨_, rfl⟩ (.cons ru .nil), ⟨_, hT2, rfl, _, rfl⟩⟩
    have I1 : Inv X pins σ (upd H s.heap.objs.size (.tup [.int (i : Nat), x])) { s with heap := h'', toks := tk + 1 } :=
      I.turnedNew (ch := [e, it]) (fun b ob hb q => (sb.2 b (fun z => hb (by simp [z]))).trans (hk b ob (fun z => hb (by simp [z])) (fun z => hb (by simp [z])) q)) hf (Nat.le_refl _) new
    refine ⟨.ref s.heap.objs.size, _, I1, rfl, ⟨_, x, rfl, I.hok.fresh (Nat.le_refl _), rfl, fun ys hy => by rw [I.tuple_inj hy hq]; exact hx⟩, ⟨⟨y, ?_⟩, ?_, hne, hai, hae⟩, fun b hb => ?_⟩
    · have e1 : ((i + 1 : Nat) : Int) = (i : Int) + 1 := by omega
      rw [e1]; exact he'
    · obtain ⟨⟨o, q1, q2⟩, _⟩ := hS
      exact ⟨o, (sb.2 it (Ne.symm hne)).trans q1, q2⟩
    · have hb' : b < s.heap.objs.size := by
        have e' : b = e ∨ b = it := by simpa using hb
        rcases e' with z | z
        · rw [z]; exact hel
        · rw [z]; exact hil
      rw [upd_ne (Nat.ne_of_lt hb')]
      exact (hf b hb).1
  done := by
    intro X hP hw hK hc i pins s σ H E I hf st hg
    subst hP hw hK
    obtain ⟨⟨old, he⟩, hit, hne, hai, hae⟩ := st
    obtain ⟨xs, hq, hx⟩ := hg
    obtain ⟨its, rv, p, hz⟩ := I.tuple hq
    obtain ⟨f0, f1, f2, f3, f4, f5⟩ := hf it (by simp)
    have hl := rv.length
    have hT : s.TypeIs (.ref e) "enumerate" := ⟨_, he, rfl⟩
    unfold pyNext
    refine wpAny_bind (wpAny_attempt (wpAny_callSpecial?_slot (name := Str.ofString "__next__") hT PySem.F.slot_enumerate_next (wpAny_call_entry PySem.F.slot_enumerate_next hT PySem.F.entry_enumerate_next ?_ (PySem.F.args_enumerate_next_1 _))))
    show wpAny _ _ (field (.ref e) 2 >>= _) _ _ _
    refine wpAny_bind (wpAny_field he rfl (x := .ref it) rfl ?_)
    refine wpAny_bind (nextT_end (I.ok.hd hc) hit (show s.heap.IsTuple a its.toArray from p) (by simp; omega) fun h' x eb hx' => ?_)
    obtain ⟨o, ho, hc'⟩ := hx'
    refine wpAny_bind (wpAny_isInstance (T := "StopIteration") (b := true) ⟨o, ho, hc'⟩ isSubtype_stop ?_)
    exact wpAny_pure ⟨rfl, I.turned (t' := s.toks) (fun b o hb q => eb b o hb q) f0 f1 f3 f4 f5⟩
  self := fun A i s Q E st h => let ⟨⟨_, he⟩, _⟩ := st; wpAny_pyIter_enum he h
def iEnumT (K : PySem.W.Frag) (ta : TA) : TI := fun σ H R => ta σ H fun vs H1 => ∃ a xs, vs = [.ref a] ∧ SqT K H1 a xs ∧ R (IteT K a) H1
theorem pi_enumT {X : Cx} {e : Expr} {ta : TA} {p pos tpos : Pos} {elts : List Expr} {kk : Nat} (hg : Gl X "enumerate") (hm : X.mg "enumerate" = none) (ha : PA X [e] ta) (hs : starEach [e] X.env = [(false, eval e X.env)] := by rfl) :
    PI X (.Tuple elts kk tpos) (.Call (.Name "enumerate" p) [e] [] pos) (iEnumT X.K ta) := by
  refine ⟨fun pins s σ H R I h => ?_⟩
  refine Call_ (ld_blt I hg hm boot_enumerate (PyProof.Rows.callWith_type1 (thn (ha.run pos pins s σ H _ I h) fun us s1 ⟨vs, H1, I1, r1, q1⟩ => ?_) hs rfl))
  obtain ⟨a, xs, ex, hq, q⟩ := q1
  subst ex
  obtain ⟨u, rfl, ru⟩ := vals1 r1
  obtain rfl : u = Value.ref a := ru
  obtain ⟨its, rv, p', hz⟩ := I1.tuple hq
  have hal : a < s1.heap.objs.size := by obtain ⟨o, z, _⟩ := p'; exact Heap.lt_size z
  refine call_enumT (items := its.toArray) (show s1.heap.IsTuple a its.toArray from p') fun h' he hit hsz hk => wpAny_pyIter_enum he ?_
  have I2 : Inv X pins σ H1 { s1 with heap := h' } := I1.kept (t' := s1.toks) hk
  refine ⟨s1.heap.objs.size + 1, [s1.heap.objs.size + 1, s1.heap.objs.size], _, _, H1, rfl, I2, turn_enumT a (s1.heap.objs.size + 1) s1.heap.objs.size, ⟨⟨.none, he⟩, hit, Nat.succ_ne_self _, Nat.ne_of_lt hal, Nat.ne_of_lt (Nat.lt_succ_of_lt hal)⟩, fun b hb => ?_, q⟩
  have e' : b = s1.heap.objs.size + 1 ∨ b = s1.heap.objs.size := by simpa using hb
  have hle : s1.heap.objs.size ≤ b := by
    rcases e' with z | z
    · rw [z]; exact Nat.le_add_right _ _
    · rw [z]; exact Nat.le_refl _
  exact I1.fpOk hle (I1.hok.fresh hle)
end DL

/-! DLS: t[::-1], chains of comparisons, a list as a test, any. -/
namespace DL
open PySem PySem.Spec PyProof.Rows L2

section
variable {prog : Program} {w : World} {A : Around} {E : Value → Shared → Prop} {s : Shared}
theorem rv_sl {sl : Addr} {tk : Tok} {n : Nat} {Q : Int × Int × Nat → Shared → Prop} (hs : s.heap.IsSliceOf sl .none .none (.int (-1) tk)) (h : Q ((n : Int) - 1, -1, n) s) : wpAny (model prog w) A (Builtin.Slice.sliceApplied (.ref sl) (pure (n : Int))) Q E s := by
  obtain ⟨os, hos, hcs, hds⟩ := id hs
  unfold Builtin.Slice.sliceApplied Builtin.Slice.sliceFields
  refine wpAny_bind (wpAny_bind (wpAny_field hos hds (x := .none) rfl (wpAny_bind (wpAny_field hos hds (x := .none) rfl (wpAny_bind (wpAny_field hos hds (x := .int (-1) tk) rfl (wpAny_pure ?_)))))))
  refine wpAny_bind (HT.slicePart_ (IsPart.int (-1) tk) ?_)
  show wpAny _ _ (if ((-1 : Int) == 0) = true then _ else _) _ _ s
  rw [if_neg (by decide)]
  refine wpAny_bind (HT.slicePart_ IsPart.none (wpAny_bind (HT.slicePart_ IsPart.none (wpAny_bind (wpAny_pure ?_)))))
  show wpAny _ _ (pure ((n : Int) - 1, (-1 : Int), Builtin.Slice.slicePlaces ((n : Int) - 1) (-1) (-1))) _ _ s
  have e : Builtin.Slice.slicePlaces ((n : Int) - 1) (-1) (-1) = n := by
    unfold Builtin.Slice.slicePlaces
    rw [if_neg (by decide)]
    by_cases q : ((n : Int) - 1 > -1)
    · rw [if_pos q]
      have : ((n : Int) - 1 - (-1) - 1) / (- (-1)) + 1 = n := by
        rw [show (- (-1 : Int)) = 1 from rfl, Int.ediv_one]; omega
      rw [this]; rfl
    · rw [if_neg q]
      have : n = 0 := by omega
      rw [this]; rfl
  rw [e]
  exact wpAny_pure h
theorem fm_map {α β : Type} {f : α → Option β} {g : α → β} : ∀ {l : List α}, (∀ x ∈ l, f x = some (g x)) → l.filterMap f = l.map g
  | [], _ => rfl
  | x :: l, h => by
    rw [List.filterMap_cons_some (h x List.mem_cons_self), List.map_cons, fm_map fun y hy => h y (List.mem_cons_of_mem _ hy)]
theorem rv_pick (xs : List Value) : ((List.range xs.length).filterMap fun (m : Nat) => xs.toArray[((xs.length : Int) - 1 + (m : Int) * (-1)).toNat]?) = xs.reverse := by
  apply List.ext_getElem?
  intro j
  have h1 : ((List.range xs.length).filterMap fun (m : Nat) => xs.toArray[((xs.length : Int) - 1 + (m : Int) * (-1)).toNat]?) = (List.range xs.length).map fun m => (xs.reverse[m]?).getD .none := by
    apply fm_map
    intro m hm
    have hm := List.mem_range.mp hm
    have e : ((xs.length : Int) - 1 + (m : Int) * (-1)).toNat = xs.length - 1 - m := by omega
    rw [e, List.getElem?_toArray]
    show _ = some ((xs.reverse[m]?).getD .none)
    rw [List.getElem?_reverse hm, List.getElem?_eq_getElem (by omega)]
    rfl
  rw [h1, List.getElem?_map]
  by_cases q : j < xs.length
  · rw [List.getElem?_range q]
    show some ((xs.reverse[j]?).getD .none) = _
    rw [List.getElem?_eq_getElem (by rw [List.length_reverse]; exact q)]; rfl
  · rw [List.getElem?_eq_none (by rw [List.length_range]; omega), List.getElem?_eq_none (by rw [List.length_reverse]; omega)]; rfl
theorem rv_get {t sl : Addr} {items : List Value} {tk : Tok} {Q : Value → Shared → Prop} (ht : IsTup s.heap t items.toArray) (hs : s.heap.IsSliceOf sl .none .none (.int (-1) tk))
    (h : Q (.ref s.heap.objs.size) { s with heap := s.heap.push { cls := .type "tuple", data := .seq items.reverse.toArray } }) (hsz : items.length ≤ sizeLine) : wpAny (model prog w) A (getItem (.ref t) (.ref sl)) Q E s := by
  have htake : sizeOk (.seq items.reverse.toArray) := by
    show items.reverse.toArray.size ≤ sizeLine
    rw [List.size_toArray, List.length_reverse]; exact hsz
  obtain ⟨os, hos, hcs, hds⟩ := id hs
  have hTs : s.TypeIs (.ref sl) "slice" := ⟨os, hos, hcs⟩
  have hTt : s.TypeIs (.ref t) "tuple" := ht.typeIs
  unfold getItem
  try with_reducible refine wpAny_holding ?_
  first | refine wpAny_bind (wpAny_pure ?_) | skip
  refine wpAny_bind (wpAny_sequenceKey hTt (by decide) ?_)
  refine wpAny_bind (wpAny_callSpecial?_slot (name := Str.ofString "__getitem__") hTt PyProof.Rows.slot_tuple_getitem (wpAny_call_entry PyProof.Rows.slot_tuple_getitem hTt entry_tuple_getitem ?_ (args_tuple_getitem _ _)))
  show wpAny _ _ (Builtin.Tuple.tupleItemsOf (.ref t) >>= _) _ _ s
  refine wpAny_bind (tupleItemsOf_ ht ?_)
  refine wpAny_bind (wpAny_typeOf hTs ?_)
  rw [if_pos (by decide)]
  have e1 : items.toArray.size = items.length := by simp
  rw [e1]
  refine wpAny_bind (rv_sl (n := items.length) hs ?_)
  have hno : ¬ ((((items.length : Int) - 1) == 0 && (-1 : Int) == 1 && items.length == items.length) = true) := by
    rw [show ((-1 : Int) == 1) = false from rfl, Bool.and_false, Bool.false_and]
    decide
  show wpAny _ _ (if (((items.length : Int) - 1) == 0 && (-1 : Int) == 1 && items.length == items.length) = true then _ else _) _ _ s
  rw [if_neg hno, rv_pick]
  first
    | exact wpAny_bind (m := Builtin.Tuple.tupleExact _) (wpAny_newObj_type (wpAny_pure ⟨_, rfl, wpAny_pure h⟩) htake)
    | exact wpAny_bind (m := Builtin.Tuple.tupleExact _) (wpAny_newObj_type (wpAny_bind (wpAny_pure (wpAny_pure ⟨_, rfl, wpAny_pure h⟩))) htake)
    | exact wpAny_bind (wpAny_bind (m := Builtin.Tuple.tupleExact _) (wpAny_newObj_type (wpAny_pure (wpAny_pure ⟨_, rfl, wpAny_pure h⟩)) htake))
    | exact wpAny_bind (wpAny_bind (m := Builtin.Tuple.tupleExact _) (wpAny_newObj_type (wpAny_pure ⟨_, rfl, wpAny_pure h⟩) htake))
end
section
variable {X : Cx} {pos : Pos} {a b c e : Expr} {A B C : DE}
theorem vals_reverse : ∀ {xs : List V} {us : List Value}, Vals xs us → Vals xs.reverse us.reverse := by
  intro xs us h
  induction h with
  | nil => exact .nil
  | cons h t ih =>
    rw [List.reverse_cons, List.reverse_cons]
    have app : ∀ {xs ys : List V} {us vs : List Value}, Vals xs us → Vals ys vs → Vals (xs ++ ys) (us ++ vs) := by
      intro xs ys us vs h q
      induction h with
      | nil => exact q
      | cons h _ ih => exact .cons h ih
    exact app ih (.cons h .nil)
theorem snd_rvT {k : Nat} {g1 g2 g3 : Pos} (ha : SndE X a A) : SndE X (.Subscript a (.Slice none none (some (.UnaryOp .USub (.Constant (.int 1) k g1) g2)) g3) pos) (dRvT A) := by
  intro F ρ env st v st' σ H Q W E h cc
  obtain ⟨x, st1, h1, h⟩ := mb_eq h
  split at h
  · rename_i xs
    cases h
    intro pins s I
    have q1 := ha F ρ env st (.tup xs) st' σ H (fun w1 H1 => ∃ F1 ρ1, Pst X.K F ρ st H F1 ρ1 st' H1 ∧ RelP X.K F1 ρ1 st'.nxt (.tup xs) w1) W E h1 fun F1 ρ1 w1 H1 p r => ⟨F1, ρ1, p, r⟩
    refine Subscript_ (thn (q1 pins s I) fun v s1 ⟨w1, H1, I1, rx, F1, ρ1, p, r⟩ => ?_)
    obtain ⟨ad, vs, rfl, hq, r2⟩ := tup_ok p.wld r
    obtain rfl : v = Value.ref ad := rx
    refine wpAny_Slice ?_
    rw [evalPart_none]
    refine wpAny_pure ?_
    refine wpAny_pure ?_
    rw [evalPart_some]
    have hu : SndE X (.UnaryOp .USub (.Constant (.int 1) k g1) g2) (dUn opNeg (dCst (.int 1))) := snd_un su_neg snd_int
    have q2 := hu F1 ρ1 env st' (.int (-1)) st' σ H1 (fun w2 H2 => w2 = .int (-1) ∧ H2 = H1 ∨ ∃ F2 ρ2, Pst X.K F1 ρ1 st' H1 F2 ρ2 st' H2 ∧ RelP X.K F2 ρ2 st'.nxt (.int (-1)) w2) p.wld (E.step p) rfl fun F2 ρ2 w2 H2 p2 r2 => .inr ⟨F2, ρ2, p2, r2⟩
    refine thn (q2 pins s1 I1) fun u s2 ⟨w2, H2, I2, ru, hz⟩ => ?_
    obtain ⟨F2, ρ2, p2, e2⟩ : ∃ F2 ρ2, Pst X.K F1 ρ1 st' H1 F2 ρ2 st' H2 ∧ w2 = .int (-1) := by
      rcases hz with ⟨z1, z2⟩ | ⟨F2, ρ2, z1, z2⟩
      · subst z2; exact ⟨F1, ρ1, Pst.refl p.wld, z1⟩
      · exact ⟨F2, ρ2, z1, int_ok z2⟩
    subst e2
    obtain ⟨tk, rfl⟩ := ru
    have P := p.trans p2
    have r3 : RelPs X.K F2 ρ2 st'.nxt xs vs := r2.step p2
    have hq2 : SqT X.K H2 ad vs := by
      have z : RelP X.K F2 ρ2 st'.nxt (.tup xs) (.ref ad) := r.step p2
      obtain ⟨ad', vs', e', hq', r'⟩ := tup_ok P.wld z
      cases e'
      have e5 : vs = vs' := by
        obtain ⟨its, rv, ⟨o, g1, _, m, g3⟩, _⟩ := I1.tuple hq
        have z : RelP X.K F1 ρ1 st'.nxt (.tup xs) (.ref ad) := r
        rw [RelP] at z
        obtain ⟨a2, vs2, e2, t2, r2'⟩ := z
        cases e2
        have k1 : vs = vs2 := I1.tuple_inj hq (p.wld.sub.sqT t2)
        have k2 : vs' = vs2 := I2.tuple_inj hq' (P.wld.sub.sqT (p2.ex.sqT t2))
        rw [k1, k2]
      rw [e5]; exact hq'
    have I4 : Inv X pins σ H2 { s2 with heap := s2.heap.push { cls := .type "slice", data := .fields #[.none, .none, .int (-1) tk] } } := I2.kept (t' := s2.toks) fun b ob q => Heap.get?_push_of_some _ q
    obtain ⟨its, rv, p', hz'⟩ := I4.tuple hq2
    have hl := rv.length
    have c2 := Ct.of P cc
    have hg : wpAny (model X.prog X.w) X.A (getItem (.ref ad) (.ref s2.heap.objs.size)) (EP X pins σ Q) X.xe { s2 with heap := s2.heap.push { cls := .type "slice", data := .fields #[.none, .none, .int (-1) tk] } } := by
      refine rv_get p' (Heap.IsSliceOf.new ..) ?_ (by rw [← hl]; exact hz')
      refine ⟨.ref _, _, I4.laid (t' := s2.toks) (o := .tup vs.reverse) (fun b ob q => Heap.get?_push_of_some _ q) (Nat.le_refl _) ?_, rfl, tupV_ok P.wld r3.reverse c2 (I4.hok.fresh (Nat.le_refl _))⟩
      exact ⟨by rw [List.length_reverse]; exact hz', _, vals_reverse rv, IsTup.new _ _⟩
    show wpAny (model X.prog X.w) X.A (subscriptTail a (.Slice none none (some (.UnaryOp .USub (.Constant (.int 1) k g1) g2)) g3) (.ref ad) (.ref s2.heap.objs.size)) (EP X pins σ Q) X.xe { s2 with heap := s2.heap.push { cls := .type "slice", data := .fields #[.none, .none, .int (-1) tk] } }
    exact tail_any (ops := [.ref ad, .ref s2.heap.objs.size]) p'.typeIs PyProof.Rows.slot_tuple_getitem.lookup hg (by with_unfolding_all rfl)
  · cases h
/-! a < b < c -/
theorem chain_go {op op' : CmpOp} {f g : PV → PV → M PV} (ho : SndO X (compareOp op) f) (ho' : SndO X (compareOp op') g) (ha : SndE X a A) (hb : SndE X b B) (hc : SndE X c C) {F : Hp} {ρ : Nat → Addr} {env : Env} {st : Sto} {v : PV} {st' : Sto} {σ : L2.St} {H : Hp} {Q : VK}
    (W : Wld X.K F ρ st H) (E : ERel X.K F ρ st.nxt env σ) (h : dChain f g A B C env st = some (v, st')) (k : Ct X.K F ρ st H v st' Q) :
    tChain (wR X (compareOp op)) (wR X (compareOp op')) (wE X a) (wE X b) (wE X c) σ H Q := by
  obtain ⟨x, st1, h1, h⟩ := mb_eq h
  obtain ⟨y, st2, h2, h⟩ := mb_eq h
  obtain ⟨r, st3, h3, h⟩ := mb_eq h
  obtain ⟨kk, st4, h4, h⟩ := mb_eq h
  obtain ⟨rfl, rfl⟩ := asB_eq h4
  refine ha F ρ env st x st1 σ H _ W E h1 fun F1 ρ1 w1 H1 p1 r1 => ?_
  refine hb F1 ρ1 env st1 y st2 σ H1 _ p1.wld (E.step p1) h2 fun F2 ρ2 w2 H2 p2 r2 => ?_
  refine ho F2 ρ2 st2 x y w1 w2 _ _ H2 _ p2.wld (r1.step p2) r2 h3 fun F3 ρ3 w3 H3 p3 r3 => ⟨kk, bl_ok r3, ?_⟩
  have P := (p1.trans p2).trans p3
  cases kk with
  | false =>
    cases h
    rw [if_neg (by decide)]
    exact (Ct.of P k).here p3.wld (rel_bl _)
  | true =>
    rw [if_pos rfl]
    obtain ⟨z, st5, h5, h⟩ := mb_eq h
    refine hc F3 ρ3 env _ z st5 σ H3 _ p3.wld (E.step P) h5 fun F4 ρ4 w4 H4 p4 r4 => ?_
    exact ho' F4 ρ4 st5 y z w2 w4 v st' H4 Q p4.wld ((r2.step p3).step p4) r4 h (Ct.of (P.trans p4) k)
theorem snd_chain {op op' : CmpOp} {f g : PV → PV → M PV} (ho : SndO X (compareOp op) f) (ho' : SndO X (compareOp op') g) (ha : SndE X a A) (hb : SndE X b B) (hc : SndE X c C) (hm : lastMarks [op, op'] [b, c] = false) : SndE X (.Compare a [op, op'] [b, c] pos) (dChain f g A B C) := by
  intro F ρ env st v st' σ H Q W E h k
  exact wE_of (pe_chain opr_w opr_w pe_w pe_w pe_w hm) (chain_go ho ho' ha hb hc W E h k)
theorem tst_chain {op op' : CmpOp} {f g : PV → PV → M PV} (ho : SndO X (compareOp op) f) (ho' : SndO X (compareOp op') g) (ha : SndE X a A) (hb : SndE X b B) (hc : SndE X c C) (hm : lastMarks [op, op'] [b, c] = false) : SndT X (.Compare a [op, op'] [b, c] pos) (tVal (dChain f g A B C)) := by
  intro F ρ env st v st' σ H Q W E h k
  have h0 : mb (dChain f g A B C env st) asB = some (v, st') := h
  obtain ⟨z, st3, h5, h3⟩ := mb_eq h0
  obtain ⟨rfl, rfl⟩ := asB_eq h3
  refine wT_of (pt_chain opr_w opr_w pe_w pe_w pe_w hm) ?_
  exact chain_go ho ho' ha hb hc W E h5 fun F3 ρ3 w H3 p3 r3 => ⟨_, bl_ok r3, k F3 ρ3 H3 p3⟩
/-! a list as a test -/
theorem tst_tru (he : ∀ whole, isTrue e X.env whole = (do let v ← whole; standAt e.pos; holding [v] (truthy v))) {D : DE} (h : SndE X e D) : SndT X e (tTru D) := by
  intro F ρ env st v st' σ H Q W E h0 k
  obtain ⟨z, st3, h0, h3⟩ := mb_eq h0
  refine wT_of (pt_truth pe_w he) ?_
  refine h F ρ env st z st3 σ H _ W E h0 fun F3 ρ3 w H3 p3 r3 => ?_
  unfold asT at h3
  split at h3
  · cases h3
    rw [bl_ok r3]
    exact ⟨_, rfl, k F3 ρ3 H3 p3⟩
  · split at h3
    · rename_i xs hx
      cases h3
      obtain ⟨p, vs, rfl, hq, r⟩ := lst_ok p3.wld r3 hx
      refine ⟨_, .inl ⟨vs, .inl (.inl hq), ?_⟩, k F3 ρ3 H3 p3⟩
      have hl := r.length
      cases xs with
      | nil =>
        cases vs with
        | nil => rfl
        | cons _ _ => cases hl
      | cons _ _ =>
        cases vs with
        | nil => cases hl
        | cons _ _ => rfl
    · cases h3
theorem snd_glob {x : Str} {v : PV} {w : V} {u : Value} (hg : Gl X x) (hm : X.mg x = some u) (ru : RelV w u) (r : ∀ F ρ n, RelP X.K F ρ n v w) (hd : (x == ("__debug__" : Str)) = false) : SndE X (.Name x pos) (dCst v) := by
  intro F ρ env st v' st' σ H Q W E h k
  cases h
  exact wE_of (pe_glob hg hm ru hd) (k.here W (r _ _ _))
/-! any -/
theorem bls_ok {K : PySem.W.Frag} {F : Hp} {ρ : Nat → Addr} {n : Nat} : ∀ {xs : List PV} {vs : List V} {bs : List Bool}, blsOf xs = some bs → RelPs K F ρ n xs vs → vs = bs.map V.bl
  | [], _, _, e, h => by rw [blsOf] at e; cases e; rw [h.inv0]; rfl
  | x :: r, _, _, e, h => by
    obtain ⟨w, ws, rfl, h1, t⟩ := h.inv
    cases x with
    | bl b =>
      rw [blsOf] at e
      cases q : blsOf r with
      | none => rw [q] at e; cases e
      | some l =>
        rw [q] at e; cases e
        rw [bl_ok h1, bls_ok q t]; rfl
    | _ => exact absurd e (by unfold blsOf; simp)
theorem sc_any (hc : X.calm = true) : SndC X (.builtin "any") bAny := by
  intro F ρ st xs ws v st' H Q W r h k
  unfold bAny at h
  split at h
  · split at h
    · rename_i xs hx
      split at h
      · rename_i bs hb
        cases h
        obtain ⟨w, rfl, r1⟩ := one_inv r
        obtain ⟨p, vs, rfl, hq, r2⟩ := lst_ok W r1 hx
        refine wC_of (cr_any hc) ⟨p, bs, rfl, ?_, k.here W (rel_bl _)⟩
        rw [← bls_ok hb r2]
        exact .inl (.inl hq)
      · cases h
    · cases h
  · cases h
end
end DL

/-! DLP: d.setdefault(k, v), d.pop(k), d with tuples as keys at a place. -/
namespace DL
open PySem PySem.Spec PyProof.Rows L2

def dctAt (x : PV) (st : Sto) : Option (Nat × List PV × List PV × Nat) := match x with
  | .loc l => match st.cs l with
    | some (.dct ks vs t) => some (l, ks, vs, t)
    | _ => none
  | _ => none
theorem dctAt_eq {x : PV} {st : Sto} {l t : Nat} {ks vs : List PV} (h : dctAt x st = some (l, ks, vs, t)) : x = .loc l ∧ st.cs l = some (.dct ks vs t) := by
  unfold dctAt at h
  split at h
  · split at h
    · rename_i hl
      cases h
      exact ⟨rfl, hl⟩
    · cases h
  · cases h
theorem dctAt_of {st : Sto} {l t : Nat} {ks vs : List PV} (h : st.cs l = some (.dct ks vs t)) : dctAt (.loc l) st = some (l, ks, vs, t) := by
  show (match st.cs l with | some (.dct ks vs t) => some (l, ks, vs, t) | _ => none) = _
  rw [h]
/-- d.setdefault(k, v) -/
@[irreducible] def dSetd (o k v : DE) : DE := fun env st => mb (o env st) fun x st1 => match dctAt x st1 with
  | none => none
  | some _ => mb (k env st1) fun y st2 => mb (v env st2) fun z st3 => match dctAt x st3 with
    | some (l, ks, vs, t) => if goodK ks y && z.lb st3.nxt && decide (ks.length < sizeLine) then (match dlook ks vs y with
      | some u => some (u, st3)
      | none => some (z, st3.set l (.dct (dput ks vs y z).1 (dput ks vs y z).2 (t + 1)))) else none
    | none => none
def drem : List PV → List PV → PV → List PV × List PV
  | k' :: ks, v' :: vs, k => if keyEq k' k then drem ks vs k else (k' :: (drem ks vs k).1, v' :: (drem ks vs k).2)
  | _, _, _ => ([], [])
/-- d.pop(k), k among the keys -/
@[irreducible] def dPop1 (o k : DE) : DE := fun env st => mb (o env st) fun x st1 => match dctAt x st1 with
  | none => none
  | some _ => mb (k env st1) fun y st2 => match dctAt x st2 with
    | some (l, ks, vs, t) => if goodK ks y then (match dlook ks vs y with
      | some u => some (u, st2.set l (.dct (drem ks vs y).1 (drem ks vs y).2 (t + 1)))
      | none => none) else none
    | none => none
section
variable {X : Cx} {F : Hp} {ρ : Nat → Addr} {st st' : Sto} {H : Hp} {pins : List (Addr × Obj)} {σ : L2.St} {s : Shared} {n : Nat} {ks vs : List PV} {v x : PV}
theorem drem_len : ∀ {ks vs : List PV} {k : PV}, vs.length = ks.length → (drem ks vs k).1.length ≤ ks.length ∧ (drem ks vs k).2.length = (drem ks vs k).1.length
  | [], [], _, _ => ⟨Nat.le_refl _, rfl⟩
  | [], _ :: _, _, h => by cases h
  | k' :: ks, [], k, h => by cases h
  | k' :: ks, v' :: vs, k, h => by
    obtain ⟨a, b⟩ := drem_len (ks := ks) (vs := vs) (k := k) (by simpa using h)
    rw [drem]
    split
    · exact ⟨Nat.le_succ_of_le a, b⟩
    · exact ⟨Nat.succ_le_succ a, congrArg Nat.succ b⟩
theorem drem_lb {m : Nat} : ∀ {ks vs : List PV} {k : PV}, lbs m ks = true → lbs m vs = true → lbs m (drem ks vs k).1 = true ∧ lbs m (drem ks vs k).2 = true
  | [], _, _, _, _ => by rw [drem] <;> first | exact ⟨lbs_nil m, lbs_nil m⟩ | (intro _ _ _ _ z; cases z)
  | k' :: ks, [], k, _, _ => by rw [drem] <;> first | exact ⟨lbs_nil m, lbs_nil m⟩ | (intro _ _ _ _ _ z; cases z)
  | k' :: ks, v' :: vs, k, h, g => by
    rw [lbs_cons, Bool.and_eq_true] at h g
    obtain ⟨a, b⟩ := drem_lb (k := k) h.2 g.2
    rw [drem]
    split
    · exact ⟨a, b⟩
    · exact ⟨by rw [lbs_cons, h.1, a]; rfl, by rw [lbs_cons, g.1, b]; rfl⟩
theorem rem_ok {P : Program} {wd : World} {k : PV} {nk : NestedKey} (hnk : NK k = some nk) :
    ∀ {ks vs : List PV} {kws vws : List V} {es : List DictEntry} {xs : List (NestedKey × Addr × Value)}, EsR ks kws vws es → es = xs.map (entryOfKey (nestedKind P wd)) → ks.map NK = xs.map (fun x => some x.1) → RelPs X.K F ρ n ks kws → RelPs X.K F ρ n vs vws →
    ∃ kws' vws', EsR (drem ks vs k).1 kws' vws' ((withoutH xs nk).map (entryOfKey (nestedKind P wd))) ∧ (drem ks vs k).1.map NK = (withoutH xs nk).map (fun x => some x.1) ∧ RelPs X.K F ρ n (drem ks vs k).1 kws' ∧ RelPs X.K F ρ n (drem ks vs k).2 vws'
  | [], vs, _, _, _, xs, h, he, h1, r1, r2 => by
    obtain ⟨rfl, rfl, rfl⟩ := h
    cases xs with
    | cons _ _ => cases h1
    | nil =>
      have e : drem [] vs k = ([], []) := by cases vs <;> rfl
      rw [e]
      exact ⟨[], [], ⟨rfl, rfl, rfl⟩, rfl, .nil, .nil⟩
  | k' :: ks, vs, _, _, _, [], h, he, h1, r1, r2 => by cases h1
  | k' :: ks, [], _, _, _, x :: xs, h, he, h1, r1, r2 => by
    obtain ⟨a, as, b', bs, e, es, _, rfl, _, _⟩ := h
    exact absurd r2.inv0 (by simp)
  | k' :: ks, v' :: vs, _, _, _, x :: xs, h, he, h1, r1, r2 => by
    obtain ⟨a, as, b', bs, e, es, rfl, rfl, rfl, hx, h4, h5, h⟩ := h
    obtain ⟨w, ws, e0, q1, q2⟩ := r1.inv
    cases e0
    obtain ⟨w2, ws2, e0, q3, q4⟩ := r2.inv
    cases e0
    rw [List.map_cons, List.map_cons] at h1
    injection h1 with h1 h3
    rw [List.map_cons] at he
    injection he with he he2
    obtain ⟨kws', vws', z1, z2, z3, z4⟩ := rem_ok (P := P) (wd := wd) hnk h he2 h3 q2 q4
    by_cases ek : x.1 = nk
    · have e1 : drem (k' :: ks) (v' :: vs) k = drem ks vs k := by
        rw [drem, keyEq_iff h1 hnk, decide_eq_true ek, if_pos rfl]
      have e2 : withoutH (x :: xs) nk = withoutH xs nk := by
        unfold withoutH
        rw [List.filter_cons, decide_eq_false (fun z => z ek), if_neg (by decide)]
      rw [e1, e2]
      exact ⟨kws', vws', z1, z2, z3, z4⟩
    · have e1 : drem (k' :: ks) (v' :: vs) k = (k' :: (drem ks vs k).1, v' :: (drem ks vs k).2) := by
        rw [drem, keyEq_iff h1 hnk, decide_eq_false ek, if_neg (by decide)]
      have e2 : withoutH (x :: xs) nk = x :: withoutH xs nk := by
        unfold withoutH
        rw [List.filter_cons, decide_eq_true ek, if_pos rfl]
      rw [e1, e2]
      refine ⟨a :: kws', b' :: vws', ⟨_, _, _, _, _, _, rfl, rfl, by rw [List.map_cons, ← he], hx, h4, h5, z1⟩, ?_, .cons q1 z3, .cons q3 z4⟩
      rw [List.map_cons, List.map_cons, h1, z2]
/-- the dict at a place, as the library tells it -/
theorem at_ok (W : Wld X.K F ρ st H) (I : Inv X pins σ H s) {l t : Nat} (hl : st.cs l = some (.dct ks vs t)) : ∃ ob es ep kws vws xs, H (ρ l) = some (dO (ρ l) ob) ∧ RelPs X.K F ρ st.nxt ks kws ∧ RelPs X.K F ρ st.nxt vs vws ∧ DObj (ρ l) ks kws vws ob ∧ EsR ks kws vws es ∧
    s.heap.DictOfH (nestedKind X.prog X.w) (ρ l) xs ∧ es = xs.map (entryOfKey (nestedKind X.prog X.w)) ∧ ks.map NK = xs.map (fun x => some x.1) ∧ Vals vws (xs.map (·.2.2)) ∧ xs.length = ks.length ∧ (xs.map (·.1)).Nodup ∧ (ρ l == sysModules) = false ∧ vs.length = ks.length ∧ ob.data = .dict es.toArray ep := by
  obtain ⟨fl, ob, kws, vws, hH, rk, rv, d⟩ := W.cell l _ hl
  obtain ⟨hx, ⟨es, ep, hdat, he⟩, hs, hsz, nd⟩ := id d
  obtain ⟨xs, x1, x2, x3, x4, x5⟩ := ents_ok (P := X.prog) (wd := X.w) I W.sub he rk
  have ndx : (xs.map (·.1)).Nodup := by
    rw [x3] at nd
    have : xs.map (fun x => some x.1) = (xs.map (·.1)).map some := by rw [List.map_map]; rfl
    rw [this] at nd
    exact nodup_of_map nd
  exact ⟨ob, es.toList, ep, kws, vws, xs, hH, rk, rv, d, he, ⟨ob, es, ep, dO_at I hH, hx, hdat, x1, x2, ndx⟩, x1, x3, x4, x5, ndx, hs, dobj_len d rk rv, by rw [hdat, Array.toArray_toList]⟩
/-- .. is rewritten -/
theorem at_set (W : Wld X.K F ρ st H) (I : Inv X pins σ H s) {l t : Nat} (hl : st.cs l = some (.dct ks vs t)) {ks' vs' : List PV} {kws' vws' : List V} {xs' : List (NestedKey × Addr × Value)} {h' : Heap} {tk : Nat}
    (hH : H (ρ l) ≠ none) (hnd : ∃ ob, H (ρ l) = some (dO (ρ l) ob)) (hs : (ρ l == sysModules) = false) (dk' : h'.DictOfH (nestedKind X.prog X.w) (ρ l) xs') (hs' : Heap.SameBut (ρ l) s.heap h') (z1 : EsR ks' kws' vws' (xs'.map (entryOfKey (nestedKind X.prog X.w)))) (z2 : ks'.map NK = xs'.map (fun x => some x.1))
    (z3 : RelPs X.K F ρ st.nxt ks' kws') (z4 : RelPs X.K F ρ st.nxt vs' vws') (hz : ks'.length ≤ sizeLine) (hlb : (Cell.dct ks' vs' (t + 1)).lb st.nxt = true) :
    ∃ ob', Inv X pins σ (upd H (ρ l) (dO (ρ l) ob')) { s with heap := h', toks := tk } ∧ Pst X.K F ρ st H F ρ (st.set l (.dct ks' vs' (t + 1))) (upd H (ρ l) (dO (ρ l) ob')) := by
  obtain ⟨ob', es', ep', hg', hx', hd', he', his', nd'⟩ := dk'
  have dn : DObj (ρ l) ks' kws' vws' ob' := by
    refine ⟨hx', ⟨es', ep', hd', by rw [he']; exact z1⟩, hs, hz, ?_⟩
    rw [z2]
    have : xs'.map (fun x => some x.1) = (xs'.map (·.1)).map some := by rw [List.map_map]; rfl
    rw [this]
    exact nodup_some nd'
  have p := W.set hl tick_dct hlb (o := dO (ρ l) ob') ⟨ob', kws', vws', rfl, z3, z4, dn⟩
  obtain ⟨ob, e⟩ := hnd
  refine ⟨ob', ?_, p⟩
  exact d_write I (by rw [e]; exact True.intro) hs' ⟨_, hg'⟩ (dO_ok hg')
/-- d.setdefault(k, v) -/
theorem snd_setd {o e f : Expr} {O K' V' : DE} {apos cpos : Pos} (hu : X.A.units + 65 < cLine) (ho : SndE X o O) (he : SndE X e K') (hf : SndE X f V') (m : M2 X o "setdefault" apos e f cpos) : SndE X (.Call (.Attribute o "setdefault" apos) [e, f] [] cpos) (dSetd O K' V') := by
  intro F ρ env st v st' σ H Q W E h c
  unfold dSetd at h
  obtain ⟨x, st1, h1, h⟩ := mb_eq h
  cases hd : dctAt x st1 with
  | none => rw [hd] at h; cases h
  | some kv =>
    rw [hd] at h
    obtain ⟨y, st2, h2, hA⟩ := mb_eq h
    obtain ⟨z, st3, h3, hB⟩ := mb_eq hA
    clear h hA
    cases hd3 : dctAt x st3 with
    | none => rw [hd3] at hB; cases hB
    | some kv3 =>
      obtain ⟨l0, ks0, vs0, t0⟩ := kv
      obtain ⟨l, ks3, vs3, t3⟩ := kv3
      obtain ⟨rfl, hl1⟩ := dctAt_eq hd
      obtain ⟨e0, hl3⟩ := dctAt_eq hd3
      cases e0
      rw [hd3] at hB
      have h : (if goodK ks3 y && z.lb st3.nxt && decide (ks3.length < sizeLine) then (match dlook ks3 vs3 y with
        | some u => some (u, st3)
        | none => some (z, st3.set l0 (.dct (dput ks3 vs3 y z).1 (dput ks3 vs3 y z).2 (t3 + 1)))) else none) = some (v, st') := hB
      split at h
      · rename_i hg
        rw [Bool.and_eq_true, Bool.and_eq_true, decide_eq_true_iff] at hg
        obtain ⟨⟨hg, hzl⟩, hzk⟩ := hg
        intro pins s I
        refine wpAny_Call_method m.base m.few m.line PySem.F.plainAttrs_dict PySem.F.slot_dict_setdefault PySem.F.type_dict_setdefault ?_
        have q1 := ho F ρ env st _ st1 σ H (fun w1 H1 => ∃ F1 ρ1, Pst X.K F ρ st H F1 ρ1 st1 H1 ∧ RelP X.K F1 ρ1 st1.nxt (.loc l0) w1) W E h1 fun F1 ρ1 w1 H1 p1 r1 => ⟨F1, ρ1, p1, r1⟩
        refine thn (q1 pins s I) fun u s1 ⟨w1, H1, I1, rx, F1, ρ1, p1, r1⟩ => ?_
        rw [RelP] at r1
        obtain ⟨hlt, rfl⟩ := r1
        obtain ⟨_, ob, kws, vws, hH, rk, rv, d⟩ := p1.wld.cell l0 _ hl1
        obtain rfl : u = Value.ref (ρ1 l0) := rx
        have hg1 := dO_at I1 hH
        refine ⟨⟨ob, hg1, d.1.1⟩, fun b q => by cases q; exact ⟨ob, hg1, d.1.2.1⟩, ?_⟩
        rw [m.trees]
        have q2 := he F1 ρ1 env st1 y st2 σ H1 (fun w2 H2 => ∃ F2 ρ2, Pst X.K F1 ρ1 st1 H1 F2 ρ2 st2 H2 ∧ RelP X.K F2 ρ2 st2.nxt y w2) p1.wld (E.step p1) h2 fun F2 ρ2 w2 H2 p2 r2 => ⟨F2, ρ2, p2, r2⟩
        refine Calls.callWith_builtin rfl (Calls.evalArgs_plain (Calls.spliced_cons (thn (q2 pins s1 I1) fun iv s2 ⟨w2, H2, I2, ry, F2, ρ2, p2, r2⟩ => ?_)))
        have q3 := hf F2 ρ2 env st2 z st3 σ H2 (fun w3 H3 => ∃ F3 ρ3, Pst X.K F2 ρ2 st2 H2 F3 ρ3 st3 H3 ∧ RelP X.K F3 ρ3 st3.nxt z w3) p2.wld ((E.step p1).step p2) h3 fun F3 ρ3 w3 H3 p3 r3 => ⟨F3, ρ3, p3, r3⟩
        refine Calls.spliced_cons (thn (q3 pins s2 I2) fun fv s3 ⟨w3, H3, I3, rz, F3, ρ3, p3, r3⟩ => Calls.spliced_nil ?_)
        have P23 := p2.trans p3
        have P3 := (p1.trans p2).trans p3
        have er : ρ3 l0 = ρ1 l0 := P23.rho l0 hlt
        obtain ⟨ob3, es, ep, kws3, vws3, xs, hH3, rk3, rv3, d3, hes, dk, x1, x3, x4, x5, ndx, hs3, hlen, _⟩ := at_ok p3.wld I3 hl3
        rw [er] at hH3 dk hs3
        obtain ⟨nk, b, k1, rfl, k2⟩ := key_ok X.prog X.w I3 p3.wld.sub (goodK_iff.mp hg).2 (r2.step p3) ry
        have r2' : RelP X.K F3 ρ3 st3.nxt y (.ref b) := by
          have hy := (goodK_iff.mp hg).2
          have r2 := r2.step p3
          cases y with
          | tup ys =>
            rw [RelP] at r2 ⊢
            obtain ⟨c', vs', rfl, t, r⟩ := r2
            cases ry
            exact ⟨_, vs', rfl, t, r⟩
          | _ => cases hy
        refine call_setdefault_heap (knd := nestedKind X.prog X.w) (show X.A.in1.units + 8 < cLine from (by show X.A.units + 1 + 8 < cLine; omega)) k2 hs3 dk (fun p hp => ?_) (fun hn h' dk' hs' => ?_) (hsz := by rw [x5]; omega)
        · rcases look_ok (P := X.prog) (wd := X.w) k1 x3 rv3 x4 hlen with ⟨e1, e2⟩ | ⟨v', w', p', e1, e2, rr, rp⟩
          · rw [hp] at e2; cases e2
          · rw [hp] at e2
            cases e2
            rw [e1] at h
            cases h
            exact ⟨w', H3, I3.tok _, rp, c F3 ρ3 w' H3 P3 rr⟩
        · rcases look_ok (P := X.prog) (wd := X.w) k1 x3 rv3 x4 hlen with ⟨e1, e2⟩ | ⟨v', w', p', e1, e2, rr, rp⟩
          · rw [e1] at h
            cases h
            obtain ⟨kws', vws', z1, z2, z3, z4⟩ := put_ok (P := X.prog) (wd := X.w) (b := b) (u := fv) (goodK_iff.mp hg).2 k1 r2' r3 rz hes x1 x3 ndx rk3 rv3
            have hlb : (Cell.dct (dput ks3 vs3 y v).1 (dput ks3 vs3 y v).2 (t3 + 1)).lb st3.nxt = true := by
              have hw := st3.wc l0 _ hl3
              have hw : (lbs st3.nxt ks3 && lbs st3.nxt vs3) = true := hw
              rw [Bool.and_eq_true] at hw
              have hyl : y.lb st3.nxt = true := PV.lb_mono (Nat.zero_le _) (nk_lb k1)
              obtain ⟨q1, q2⟩ := dput_lb (k := y) (v := v) hw.1 hw.2 hyl hzl
              show (lbs st3.nxt _ && lbs st3.nxt _) = true
              rw [q1, q2]; rfl
            rw [← er] at hH3 dk' hs' hs3
            obtain ⟨ob', I4, P4⟩ := at_set (tk := s3.toks + (nestedKind X.prog X.w).draws nk) p3.wld I3 hl3 (by rw [hH3]; exact Option.some_ne_none _) ⟨ob3, hH3⟩ hs3 dk' hs' z1 z2 z3 z4 (Nat.le_trans (dput_len hlen).1 hzk) hlb
            exact ⟨w3, _, I4, rz, c F3 ρ3 w3 _ (P3.trans P4) (r3.step P4)⟩
          · rw [hn] at e2; cases e2
      · cases h
/-- d.pop(k) -/
theorem snd_pop1 {o e : Expr} {O K' : DE} {apos cpos : Pos} (hu : X.A.units + 65 < cLine) (ho : SndE X o O) (he : SndE X e K') (m : M1 X o "pop" apos e cpos) : SndE X (.Call (.Attribute o "pop" apos) [e] [] cpos) (dPop1 O K') := by
  intro F ρ env st v st' σ H Q W E h c
  unfold dPop1 at h
  obtain ⟨x, st1, h1, h⟩ := mb_eq h
  cases hd : dctAt x st1 with
  | none => rw [hd] at h; cases h
  | some kv =>
    rw [hd] at h
    obtain ⟨y, st2, h2, hA⟩ := mb_eq h
    clear h
    cases hd3 : dctAt x st2 with
    | none => rw [hd3] at hA; cases hA
    | some kv3 =>
      obtain ⟨l0, ks0, vs0, t0⟩ := kv
      obtain ⟨l, ks3, vs3, t3⟩ := kv3
      obtain ⟨rfl, hl1⟩ := dctAt_eq hd
      obtain ⟨e0, hl3⟩ := dctAt_eq hd3
      cases e0
      rw [hd3] at hA
      have h : (if goodK ks3 y then (match dlook ks3 vs3 y with
        | some u => some (u, st2.set l0 (.dct (drem ks3 vs3 y).1 (drem ks3 vs3 y).2 (t3 + 1)))
        | none => none) else none) = some (v, st') := hA
      split at h
      · rename_i hg
        intro pins s I
        refine wpAny_Call_method m.base m.few m.line PySem.F.plainAttrs_dict PySem.F.slot_dict_pop PySem.F.type_dict_pop ?_
        have q1 := ho F ρ env st _ st1 σ H (fun w1 H1 => ∃ F1 ρ1, Pst X.K F ρ st H F1 ρ1 st1 H1 ∧ RelP X.K F1 ρ1 st1.nxt (.loc l0) w1) W E h1 fun F1 ρ1 w1 H1 p1 r1 => ⟨F1, ρ1, p1, r1⟩
        refine thn (q1 pins s I) fun u s1 ⟨w1, H1, I1, rx, F1, ρ1, p1, r1⟩ => ?_
        rw [RelP] at r1
        obtain ⟨hlt, rfl⟩ := r1
        obtain ⟨_, ob, kws, vws, hH, rk, rv, d⟩ := p1.wld.cell l0 _ hl1
        obtain rfl : u = Value.ref (ρ1 l0) := rx
        have hg1 := dO_at I1 hH
        refine ⟨⟨ob, hg1, d.1.1⟩, fun b q => by cases q; exact ⟨ob, hg1, d.1.2.1⟩, ?_⟩
        rw [m.trees]
        have q2 := he F1 ρ1 env st1 y st2 σ H1 (fun w2 H2 => ∃ F2 ρ2, Pst X.K F1 ρ1 st1 H1 F2 ρ2 st2 H2 ∧ RelP X.K F2 ρ2 st2.nxt y w2) p1.wld (E.step p1) h2 fun F2 ρ2 w2 H2 p2 r2 => ⟨F2, ρ2, p2, r2⟩
        refine Calls.callWith_builtin rfl (Calls.evalArgs_plain (Calls.spliced_cons (thn (q2 pins s1 I1) fun iv s2 ⟨w2, H2, I2, ry, F2, ρ2, p2, r2⟩ => Calls.spliced_nil ?_)))
        have P2 := p1.trans p2
        have er : ρ2 l0 = ρ1 l0 := p2.rho l0 hlt
        obtain ⟨ob3, es, ep, kws3, vws3, xs, hH3, rk3, rv3, d3, hes, dk, x1, x3, x4, x5, ndx, hs3, hlen, _⟩ := at_ok p2.wld I2 hl3
        have hsz3 : ks3.length ≤ sizeLine := d3.2.2.2.1
        rw [er] at hH3 dk hs3
        obtain ⟨nk, b, k1, rfl, k2⟩ := key_ok X.prog X.w I2 p2.wld.sub (goodK_iff.mp hg).2 r2 ry
        rcases look_ok (P := X.prog) (wd := X.w) k1 x3 rv3 x4 hlen with ⟨e1, e2⟩ | ⟨v', w', p', e1, e2, rr, rp⟩
        · rw [e1] at h; cases h
        · rw [e1] at h
          cases h
          refine call_pop_heap (knd := nestedKind X.prog X.w) (.inl rfl) (PySem.F.args_dict_pop_2 _ _) (show X.A.in1.units + 8 < cLine from (by show X.A.units + 1 + 8 < cLine; omega)) k2 hs3 dk e2 (fun h' dk' hs' => ?_) (hsz := by rw [x5]; exact hsz3)
          obtain ⟨kws', vws', z1, z2, z3, z4⟩ := rem_ok (P := X.prog) (wd := X.w) k1 hes x1 x3 rk3 rv3
          have hlb : (Cell.dct (drem ks3 vs3 y).1 (drem ks3 vs3 y).2 (t3 + 1)).lb st2.nxt = true := by
            have hw := st2.wc l0 _ hl3
            have hw : (lbs st2.nxt ks3 && lbs st2.nxt vs3) = true := hw
            rw [Bool.and_eq_true] at hw
            obtain ⟨q1, q2⟩ := drem_lb (k := y) hw.1 hw.2
            show (lbs st2.nxt _ && lbs st2.nxt _) = true
            rw [q1, q2]; rfl
          rw [← er] at hH3 dk' hs' hs3
          obtain ⟨ob', I4, P4⟩ := at_set (tk := s2.toks + (nestedKind X.prog X.w).draws nk) p2.wld I2 hl3 (by rw [hH3]; exact Option.some_ne_none _) ⟨ob3, hH3⟩ hs3 dk' hs' z1 z2 z3 z4 (Nat.le_trans (drem_len hlen).1 hsz3) hlb
          exact ⟨w', _, I4, rp, c F2 ρ2 w' _ (P2.trans P4) (rr.step P4)⟩
      · cases h
end
end DL

/-! DLQ: xs.index(x). -/
namespace DL
open PySem PySem.Spec PyProof.Rows L2

def firstIx (d : PyData) : List PyData → Nat → Option Nat
  | [], _ => none
  | z :: r, k => if PyData.eqv z d then some k else firstIx d r (k + 1)
theorem firstIx_ok {d : PyData} : ∀ {ds : List PyData} {b k : Nat}, firstIx d ds b = some k → ∃ j z, k = b + j ∧ ds[j]? = some z ∧ PyData.eqv z d = true ∧ ∀ (m : Nat) (z' : PyData), m < j → ds[m]? = some z' → PyData.eqv z' d = false
  | [], b, k, h => by cases h
  | z :: r, b, k, h => by
    rw [firstIx] at h
    split at h
    · rename_i e
      cases h
      exact ⟨0, z, rfl, rfl, e, fun m _ hm => absurd hm (Nat.not_lt_zero _)⟩
    · rename_i e
      obtain ⟨j, z1, h1, h2, h3, h4⟩ := firstIx_ok h
      refine ⟨j + 1, z1, by omega, h2, h3, fun m z' hm hz => ?_⟩
      cases m with
      | zero =>
        cases hz
        exact Bool.eq_false_iff.mpr e
      | succ m => exact h4 m z' (by omega) hz
/-- o.index(a) -/
@[irreducible] def dIndex (o a : DE) : DE := fun env st => mb (o env st) fun x st1 => match lstOf st1 x with
  | none => none
  | some _ => mb (a env st1) fun y st2 => match lstOf st2 x with
    | none => none
    | some xs => match toDs st2.cs xs, (derf st2 y).toD st2.cs with
      | some ds, some d => if SeqAt.shaped (.list ds) && SeqAt.shaped d then (firstIx d ds 0).map fun k => (.int (k : Int), st2) else none
      | _, _ => none
theorem snd_index {X : Cx} {o e : Expr} {O A : DE} {apos pos : Pos} (hu : X.A.units + 65 < cLine) (ha : SndE X o O) (hes : SndE X e A) (hbase : attributeBase o "index" X.env (eval o X.env) = eval o X.env)
    (hfew : ((backTo pos (starEach [e] X.env)).all (fun x => !x.1) && (backToKw pos (keywordEach [] X.env)).all (fun x => x.1.isSome) && decide (([e] : List Expr).length + ([] : List Keyword).length + (if ([] : List Keyword).isEmpty then 0 else 1) < 30)) = true)
    (hline : (apos.endLine == pos.line) = true) (hs : starEach [e] X.env = [(false, eval e X.env)]) :
    SndE X (.Call (.Attribute o "index" apos) [e] [] pos) (dIndex O A) := by
  intro F ρ env st v st' σ H Q W E h c
  unfold dIndex at h
  obtain ⟨x, st1, h1, hA⟩ := mb_eq h
  clear h
  cases hx1 : lstOf st1 x with
  | none => rw [hx1] at hA; cases hA
  | some xs1 =>
    rw [hx1] at hA
    obtain ⟨y, st2, h2, hB⟩ := mb_eq hA
    clear hA
    cases hx2 : lstOf st2 x with
    | none => rw [hx2] at hB; cases hB
    | some xs =>
      rw [hx2] at hB
      have hB : (match toDs st2.cs xs, (derf st2 y).toD st2.cs with
        | some ds, some d => if SeqAt.shaped (.list ds) && SeqAt.shaped d then (firstIx d ds 0).map fun k => (PV.int (k : Int), st2) else none
        | _, _ => none) = some (v, st') := hB
      split at hB
      · rename_i ds d hds hd
        split at hB
        · rename_i hsh
          rw [Bool.and_eq_true] at hsh
          cases hk : firstIx d ds 0 with
          | none => rw [hk] at hB; cases hB
          | some k =>
            rw [hk] at hB
            cases hB
            obtain ⟨j, z, rfl, g2, g3, g4⟩ := firstIx_ok hk
            refine wE_of (pe_bm PySem.F.plainAttrs_list PySem.F.slot_list_index PySem.F.type_list_index (mt_indexD hu) pe_w (pa_cons pe_w pa_nil hs) hbase hfew hline hs rfl) ?_
            refine ha F ρ env st _ st1 σ H _ W E h1 fun F1 ρ1 w1 H1 p1 r1 => ?_
            obtain ⟨a, vs, rfl, hq, _⟩ := lst_ok p1.wld r1 hx1
            refine ⟨.inl ⟨rfl, vs, .inl (.inl hq)⟩, ?_⟩
            refine hes F1 ρ1 env st1 y _ σ H1 _ p1.wld (E.step p1) h2 fun F2 ρ2 w2 H2 p2 r2 => ?_
            have r3 := r1.step p2
            obtain ⟨a', vs', e0, hq', r⟩ := lst_ok p2.wld r3 hx2
            cases e0
            refine ⟨a, w2, d, ds, j, z, rfl, rfl, .lst (.inl (.inl hq')) (dps_ok p2.wld.sub r hds), dpd_ok p2.wld r2 hd, hsh.1, hsh.2, g2, g3, g4, ?_⟩
            rw [Nat.zero_add] at c
            exact (Ct.of (p1.trans p2) c).here p2.wld (rel_int _)
        · cases hB
      · cases hB
/-- list(range(a)), tuple(range(a)) -/
def dListR (m : Bool) (a : DE) : DE := fun env st => mb (a env st) fun x st1 => mb (asI x st1) fun n st2 => if okRng n && decide (n.toNat ≤ 1000000) then mkL m (rng 0 n) st2 else none
def dTupR (a : DE) : DE := fun env st => mb (a env st) fun x st1 => mb (asI x st1) fun n st2 => if okRng n && decide (n.toNat ≤ 1000000) then mkT (rng 0 n) st2 else none
theorem rel_rng {K : PySem.W.Frag} {F : Hp} {ρ : Nat → Addr} {k : Nat} {n : Int} : RelPs K F ρ k (rng 0 n) (rgV 0 n) := by
  have e1 : rng 0 n = ((List.range (n - 0).toNat).map fun (i : Nat) => (0 : Int) + (i : Int)).map PV.int := by
    unfold rng
    rw [List.map_map]; rfl
  have e2 : rgV 0 n = ((List.range (n - 0).toNat).map fun (i : Nat) => (0 : Int) + (i : Int)).map V.int := by
    unfold rgV
    rw [List.map_map]; rfl
  rw [e1, e2]
  exact RelPs.ints _
theorem snd_listR {X : Cx} {m : Bool} {a : Expr} {A : DE} {p p2 pos pos2 : Pos} (hc : X.calm = true) (hg : Gl X "list") (hm : X.mg "list" = none) (hg2 : Gl X "range") (hm2 : X.mg "range" = none) (ha : SndE X a A) (na : starEach [a] X.env = [(false, eval a X.env)])
    (nb : starEach [.Call (.Name "range" p2) [a] [] pos2] X.env = [(false, eval (.Call (.Name "range" p2) [a] [] pos2) X.env)]) : SndE X (.Call (.Name "list" p) [.Call (.Name "range" p2) [a] [] pos2] [] pos) (dListR m A) := by
  intro F ρ env st v st' σ H Q W E h c
  obtain ⟨x, st1, h1, hA⟩ := mb_eq h
  obtain ⟨n, st2, h2, hB⟩ := mb_eq hA
  obtain ⟨rfl, rfl⟩ := asI_eq h2
  clear h hA
  split at hB
  · rename_i hn
    rw [Bool.and_eq_true, decide_eq_true_iff] at hn
    obtain ⟨n1, n2⟩ := hn
    have n1 := okRng_iff.mp n1
    refine wE_of (pe_listRg hc hg hm (prg_1 hg2 hm2 pe_w na) nb) ?_
    refine ha F ρ env st _ st1 σ H _ W E h1 fun F1 ρ1 w1 H1 p1 r1 => ?_
    cases int_ok r1
    refine ⟨n, rfl, ⟨by decide, by decide, n1.1, n1.2, by rw [Int.sub_zero]; exact Nat.le_trans n2 (by decide)⟩, ?_⟩
    exact (mkL_ok p1.wld rel_rng hB (Ct.of p1 c)).2
  · cases hB
theorem snd_tupR {X : Cx} {a : Expr} {A : DE} {p p2 pos pos2 : Pos} (hc : X.calm = true) (hg : Gl X "tuple") (hm : X.mg "tuple" = none) (hg2 : Gl X "range") (hm2 : X.mg "range" = none) (ha : SndE X a A) (na : starEach [a] X.env = [(false, eval a X.env)])
    (nb : starEach [.Call (.Name "range" p2) [a] [] pos2] X.env = [(false, eval (.Call (.Name "range" p2) [a] [] pos2) X.env)]) : SndE X (.Call (.Name "tuple" p) [.Call (.Name "range" p2) [a] [] pos2] [] pos) (dTupR A) := by
  intro F ρ env st v st' σ H Q W E h c
  obtain ⟨x, st1, h1, hA⟩ := mb_eq h
  obtain ⟨n, st2, h2, hB⟩ := mb_eq hA
  obtain ⟨rfl, rfl⟩ := asI_eq h2
  clear h hA
  split at hB
  · rename_i hn
    rw [Bool.and_eq_true, decide_eq_true_iff] at hn
    obtain ⟨n1, n2⟩ := hn
    have n1 := okRng_iff.mp n1
    unfold mkT at hB
    split at hB
    · cases hB
      refine wE_of (pe_tupRg hc hg hm (prg_1 hg2 hm2 pe_w na) nb) ?_
      refine ha F ρ env st _ _ σ H _ W E h1 fun F1 ρ1 w1 H1 p1 r1 => ?_
      cases int_ok r1
      refine ⟨n, rfl, ⟨by decide, by decide, n1.1, n1.2, by rw [Int.sub_zero]; exact Nat.le_trans n2 (by decide)⟩, fun q hq => ?_⟩
      refine Ct.newV p1.wld (Ct.of p1 c) hq ?_
      rw [RelP]
      exact ⟨q, rgV 0 n, rfl, .inl (.inl upd_same), rel_rng⟩
    · cases hB
  · cases hB
end DL

/-! DLR: dict(pairs), keys that are tuples. -/
namespace DL
open PySem PySem.Spec PyProof.Rows L2

def pairsOf : List PV → Option (List PV × List PV)
  | [] => some ([], [])
  | .tup [k, v] :: r => (pairsOf r).map fun p => (k :: p.1, v :: p.2)
  | _ => none
def dputs : List PV → List PV → List PV → List PV → List PV × List PV
  | ks, vs, k :: pks, v :: pvs => dputs (dput ks vs k v).1 (dput ks vs k v).2 pks pvs
  | ks, vs, _, _ => (ks, vs)
def bDict (m : Bool) : FSem
  | [x], st => match lstOf st x with
    | some xs => match pairsOf xs with
      | some (pks, pvs) => if pks.all isTK && okLen pks.length then mkD m (dputs [] [] pks pvs).1 (dputs [] [] pks pvs).2 st else none
      | none => none
    | none => none
  | _, _ => none
section
variable {X : Cx} {F : Hp} {ρ : Nat → Addr} {st st' : Sto} {H : Hp} {pins : List (Addr × Obj)} {σ : L2.St} {s : Shared} {n : Nat} {ks vs : List PV} {v x : PV}
theorem pairs_rel (I : Inv X pins σ H s) (sub : Sub F H) : ∀ {xs pks pvs : List PV} {ws : List V} {us : List Value}, pairsOf xs = some (pks, pvs) → RelPs X.K F ρ n xs ws → Vals ws us → (∀ k ∈ pks, isTK k = true) →
    ∃ (ts : List Addr) (kps : List (NestedKey × Addr × Value)) (kws vws : List V), us = ts.map Value.ref ∧ ts.length = kps.length ∧ (∀ (j : Nat) (T : Addr) (p : NestedKey × Addr × Value), ts[j]? = some T → kps[j]? = some p → s.heap.IsTuple T #[.ref p.2.1, p.2.2]) ∧ (∀ x ∈ kps, (nestedKind X.prog X.w).is s.heap x.1 x.2.1) ∧
      pks.map NK = kps.map (fun x => some x.1) ∧ RelPs X.K F ρ n pks kws ∧ RelPs X.K F ρ n pvs vws ∧ kws = kps.map (fun x => V.ref x.2.1) ∧ Vals vws (kps.map (·.2.2)) ∧ pvs.length = pks.length
  | [], pks, pvs, ws, us, h, r, hv, _ => by
    rw [pairsOf] at h
    cases h
    cases r.inv0
    cases hv
    exact ⟨[], [], [], [], rfl, rfl, fun j T p h => (by cases h), fun x h => (by cases h), rfl, .nil, .nil, rfl, .nil, rfl⟩
  | x :: xs, pks, pvs, ws, us, h, r, hv, hk => by
    obtain ⟨w, ws', rfl, r1, r2⟩ := r.inv
    cases hv with
    | cons hv1 hv2 =>
      rename_i u us'
      have hx : ∃ k v pks' pvs', x = .tup [k, v] ∧ pairsOf xs = some (pks', pvs') ∧ pks = k :: pks' ∧ pvs = v :: pvs' := by
        unfold pairsOf at h
        split at h
        · rename_i e; cases e
        · rename_i k v r e
          cases e
          cases hq : pairsOf xs with
          | none => rw [hq] at h; cases h
          | some p =>
            rw [hq] at h
            cases h
            exact ⟨k, v, p.1, p.2, rfl, rfl, rfl, rfl⟩
        · cases h
      obtain ⟨k, v, pks', pvs', rfl, hq, rfl, rfl⟩ := hx
      obtain ⟨ts, kps, kws, vws, e1, e2, e3, e4, e5, e6, e7, e8, e9, e10⟩ := pairs_rel I sub hq r2 hv2 fun y hy => hk y (List.mem_cons_of_mem _ hy)
      rw [RelP] at r1
      obtain ⟨T, tw, rfl, t, rt⟩ := r1
      obtain rfl : u = Value.ref T := hv1
      obtain ⟨wk, tw', rfl, rk, rt⟩ := rt.inv
      obtain ⟨wv, tw'', rfl, rv, rt⟩ := rt.inv
      cases rt.inv0
      obtain ⟨its, hi, ht, _⟩ := I.tuple (sub.sqT t)
      cases hi with
      | cons hik hi =>
        rename_i uk its'
        cases hi with
        | cons hiv hi =>
          rename_i uv its''
          cases hi
          have hkT := hk k List.mem_cons_self
          obtain ⟨nk, b, k1, rfl, k2⟩ := key_ok X.prog X.w I sub hkT rk hik
          have wkE : wk = V.ref b := by
            cases k with
            | tup ys =>
              rw [RelP] at rk
              obtain ⟨c', vs', rfl, _, _⟩ := rk
              cases hik
              rfl
            | _ => cases hkT
          subst wkE
          refine ⟨T :: ts, (nk, b, uv) :: kps, .ref b :: kws, wv :: vws, by rw [e1]; rfl, by rw [List.length_cons, List.length_cons, e2], fun j T' p hT hp => ?_, fun y hy => ?_, by rw [List.map_cons, List.map_cons, k1, e5], .cons rk e6, .cons rv e7, by rw [e8]; rfl, .cons hiv e9, by rw [List.length_cons, List.length_cons, e10]⟩
          · cases j with
            | zero =>
              cases hT
              cases hp
              obtain ⟨o, g1, g2, m, g3⟩ := ht
              exact ⟨o, g1, g2, m, g3⟩
            | succ j => exact e3 j T' p hT hp
          · rcases List.mem_cons.mp hy with rfl | hy
            · exact k2
            · exact e4 y hy
theorem storedH_mem {xs : List (NestedKey × Addr × Value)} {k : NestedKey} {b : Addr} {u : Value} (hn : (xs.map (·.1)).Nodup) : (((storedH xs k b u).map (·.1)).Nodup) ∧ ∀ y ∈ (storedH xs k b u).map (·.1), y = k ∨ y ∈ xs.map (·.1) := by
  induction xs with
  | nil => exact ⟨List.nodup_cons.mpr ⟨by simp, List.nodup_nil⟩, fun y hy => .inl (List.mem_singleton.mp hy)⟩
  | cons x xs ih =>
    by_cases e : x.1 = k
    · rw [storedH_eq hn e]
      exact ⟨hn, fun y hy => .inr hy⟩
    · rw [storedH_ne e]
      rw [List.map_cons, List.nodup_cons] at hn
      obtain ⟨i1, i2⟩ := ih hn.2
      rw [List.map_cons, List.nodup_cons]
      refine ⟨⟨fun h => ?_, i1⟩, fun y hy => ?_⟩
      · rcases i2 _ h with h | h
        · exact e h
        · exact hn.1 h
      · rcases List.mem_cons.mp hy with rfl | hy
        · exact .inr List.mem_cons_self
        · rcases i2 _ hy with h | h
          · exact .inl h
          · exact .inr (List.mem_cons_of_mem _ h)
theorem puts_ok : ∀ {pks pvs : List PV} {kps : List (NestedKey × Addr × Value)} {vws' : List V} {ks vs : List PV} {kws vws : List V} {es : List DictEntry} {xs : List (NestedKey × Addr × Value)}, (∀ k ∈ pks, isTK k = true) → pks.map NK = kps.map (fun x => some x.1) → RelPs X.K F ρ n pks (kps.map (fun x => V.ref x.2.1)) → RelPs X.K F ρ n pvs vws' → Vals vws' (kps.map (·.2.2)) →
    EsR ks kws vws es → es = xs.map (entryOfKey (nestedKind X.prog X.w)) → ks.map NK = xs.map (fun x => some x.1) → (xs.map (·.1)).Nodup → RelPs X.K F ρ n ks kws → RelPs X.K F ρ n vs vws → vs.length = ks.length →
    ∃ kws2 vws2, EsR (dputs ks vs pks pvs).1 kws2 vws2 ((storedAllH xs kps).map (entryOfKey (nestedKind X.prog X.w))) ∧ (dputs ks vs pks pvs).1.map NK = (storedAllH xs kps).map (fun x => some x.1) ∧ ((storedAllH xs kps).map (·.1)).Nodup ∧ RelPs X.K F ρ n (dputs ks vs pks pvs).1 kws2 ∧ RelPs X.K F ρ n (dputs ks vs pks pvs).2 vws2 ∧ (dputs ks vs pks pvs).1.length ≤ ks.length + pks.length
  | [], pvs, kps, vws', ks, vs, kws, vws, es, xs, hk, hn, r1, r2, hv, he, hx, hnk, hnd, q1, q2, hl => by
    cases kps with
    | cons _ _ => cases hn
    | nil =>
      have e : dputs ks vs [] pvs = (ks, vs) := by cases pvs <;> rfl
      rw [e]
      exact ⟨kws, vws, by rw [← show es = (storedAllH xs []).map _ from hx]; exact he, hnk, hnd, q1, q2, Nat.le_add_right _ _⟩
  | k :: pks, pvs, kps, vws', ks, vs, kws, vws, es, xs, hk, hn, r1, r2, hv, he, hx, hnk, hnd, q1, q2, hl => by
    cases kps with
    | nil => cases hn
    | cons p kps =>
      rw [List.map_cons] at hv
      cases hv with
      | cons hv1 hv2 =>
        rename_i wv vws''
        cases pvs with
        | nil => exact absurd r2.inv0 (by simp)
        | cons v pvs =>
          rw [List.map_cons, List.map_cons] at hn
          injection hn with hn1 hn2
          obtain ⟨w0, ws0, e0, ra, rb⟩ := r1.inv
          rw [List.map_cons] at e0
          cases e0
          obtain ⟨w0, ws0, e0, rc, rd⟩ := r2.inv
          cases e0
          obtain ⟨kws1, vws1, z1, z2, z3, z4⟩ := put_ok (P := X.prog) (wd := X.w) (b := p.2.1) (u := p.2.2) (hk k List.mem_cons_self) hn1 ra rc hv1 he hx hnk hnd q1 q2
          obtain ⟨l1, l2⟩ := dput_len (k := k) (v := v) hl
          obtain ⟨kws2, vws2, y1, y2, y3, y4, y5, y6⟩ := puts_ok (pks := pks) (pvs := pvs) (kps := kps) (fun y hy => hk y (List.mem_cons_of_mem _ hy)) hn2 rb rd hv2 z1 rfl z2 (storedH_mem hnd).1 z3 z4 l2
          refine ⟨kws2, vws2, y1, y2, y3, y4, y5, ?_⟩
          rw [List.length_cons]
          show (dputs (dput ks vs k v).1 (dput ks vs k v).2 pks pvs).1.length ≤ _
          omega
theorem sc_dict {m : Bool} (hu : X.A.units + 70 < cLine) (hc : X.calm = true) : SndC X (.type "dict") (bDict m) := by
  intro F ρ st xs ws v st' H Q W r h c
  unfold bDict at h
  split at h
  · rename_i x
    split at h
    · rename_i xs hx
      split at h
      · rename_i pks pvs hp
        split at h
        · rename_i hg
          rw [Bool.and_eq_true, List.all_eq_true] at hg
          obtain ⟨hk, hz⟩ := hg
          have hz := okLen_iff.mp hz
          obtain ⟨w, rfl, r1⟩ := one_inv r
          obtain ⟨a, vs, rfl, hq, r2⟩ := lst_ok W r1 hx
          intro pins s σ us I ru
          obtain ⟨u, rfl, ru1⟩ := vals1 ru
          obtain rfl : u = Value.ref a := ru1
          obtain ⟨hz0, its, k, rv, hgt⟩ := (show ObjOk X.prog X.w H s.heap a (.lst _) from I.hok a _ hq)
          obtain ⟨ts, kps, kws, vws, e1, e2, e3, e4, e5, e6, e7, e8, e9, e10⟩ := pairs_rel I W.sub hp r2 rv hk
          subst e1
          subst e8
          have hlen : kps.length = pks.length := by
            have := congrArg List.length e5
            rw [List.length_map, List.length_map] at this
            exact this.symm
          refine call_dict_pairsH (knd := nestedKind X.prog X.w) (ps := kps) (PairArg.list a (ts.map Value.ref).toArray (fun j => (ts[j]?).getD 0) (kps.map fun p => (Value.ref p.2.1, p.2.2))) (I.ok.hd hc) (by show X.A.units + 1 + 1 + 8 < cLine; omega)
            ⟨⟨_, _, hgt, rfl, rfl, rfl⟩, by rw [List.size_toArray, List.length_map, List.length_map, e2], fun j k v hj => ?_⟩ ⟨(List.length_map _).symm, fun i key v hi => ?_⟩ ?_ (by rw [List.length_map, hlen]; exact hz) fun h' tk hd' hk' => ?_
          · rw [List.getElem?_map] at hj
            cases hpj : kps[j]? with
            | none => rw [hpj] at hj; cases hj
            | some p =>
              rw [hpj] at hj
              cases hj
              have hjl := (List.getElem?_eq_some_iff.mp hpj).1
              have hT : ts[j]? = some ts[j] := List.getElem?_eq_getElem (by omega)
              have hgd : (fun j => (ts[j]?).getD 0) j = ts[j] := by show (ts[j]?).getD 0 = _; rw [hT]; rfl
              refine ⟨by rw [List.getElem?_toArray, List.getElem?_map, hT, hgd]; rfl, ?_⟩
              rw [hgd]
              exact .inl (e3 j _ p hT hpj)
          · have hi : (kps.map fun p => (Value.ref p.2.1, p.2.2))[i]? = some (key, v) := hi
            rw [List.getElem?_map] at hi
            cases hpj : kps[i]? with
            | none => rw [hpj] at hi; cases hi
            | some p =>
              rw [hpj] at hi
              cases hi
              exact ⟨p.1, p.2.1, rfl, rfl⟩
          · intro h' hkeep y hy
            exact nestedKind_stays.stays (fun b o vs m eo ed => hkeep b o (Nat.ne_of_lt (Heap.lt_size eo)) (by simp) eo) (e4 y hy)
          · obtain ⟨ob', es', ep', hg', hx', hd2, he', his', nd'⟩ := hd'
            obtain ⟨kws2, vws2, y1, y2, y3, y4, y5, y6⟩ := puts_ok (ks := []) (vs := []) (kws := []) (vws := []) (es := []) (xs := []) hk e5 e6 e7 e9 ⟨rfl, rfl, rfl⟩ rfl rfl List.nodup_nil .nil .nil rfl
            have hs0 : (s.heap.objs.size == sysModules) = false := beq_eq_false_iff_ne.mpr (Nat.ne_of_gt I.big)
            have hpn : H s.heap.objs.size = none := I.hok.fresh (Nat.le_refl _)
            have dn : DObj s.heap.objs.size (dputs [] [] pks pvs).1 kws2 vws2 ob' := by
              refine ⟨hx', ⟨es', ep', hd2, by rw [he']; exact y1⟩, hs0, Nat.le_trans y6 (by simpa using hz), ?_⟩
              rw [y2]
              have : (storedAllH [] kps).map (fun x => some x.1) = ((storedAllH [] kps).map (·.1)).map some := by rw [List.map_map]; rfl
              rw [this]
              exact nodup_some y3
            refine ⟨.ref s.heap.objs.size, upd H s.heap.objs.size (dO s.heap.objs.size ob'), I.laid (t' := tk) (fun b o q => hk' b o (by simp) q) (Nat.le_refl _) (dO_ok hg'), rfl, ?_⟩
            unfold mkD at h
            split at h
            · split at h
              · rename_i hlb
                cases h
                refine c _ _ _ _ (W.alloc (c := .dct (dputs [] [] pks pvs).1 (dputs [] [] pks pvs).2 0) (o := dO s.heap.objs.size ob') hpn hlb ⟨_, kws2, vws2, rfl, y4, y5, dn⟩) ?_
                rw [RelP]
                exact ⟨by rw [Sto.alloc_nxt]; omega, by rw [if_pos rfl]⟩
              · cases h
            · cases h
              have p := W.new (o := dO s.heap.objs.size ob') hpn
              refine c _ _ _ _ p ?_
              rw [RelP]
              exact ⟨_, _, kws2, vws2, rfl, upd_same, y4.mono p.ex (fun _ _ => rfl) (Nat.le_refl _), y5.mono p.ex (fun _ _ => rfl) (Nat.le_refl _), dn⟩
        · cases h
      · cases h
    · cases h
  · cases h
end
end DL

/-! DLV: == and != of dicts whose keys are tuples and whose values are ints. -/
namespace DL
open PySem PySem.Spec PyProof.Rows L2 PySem.Calls

section
variable {prog : Program} {w : World} {A : Around} {E : Value → Shared → Prop} {s : Shared}
theorem atk_get : ∀ {ys : List (NestedKey × Addr × Value)} {k : NestedKey} {p : Addr × Value}, (ys.map (·.1)).Nodup → ∀ {j : Nat}, ys[j]? = some (k, p) → atKey ys k = some p
  | [], _, _, _, j, h => by cases h
  | y :: ys, k, p, hn, 0, h => by
    cases h
    simp [atKey, List.find?_cons]
  | y :: ys, k, p, hn, j + 1, h => by
    rw [List.map_cons, List.nodup_cons] at hn
    have hm : (ys[j]?) = some (k, p) := h
    have hne : ¬ y.1 = k := fun e => hn.1 (List.mem_map.mpr ⟨(k, p), List.mem_of_getElem? hm, e.symm⟩)
    have e2 : atKey (y :: ys) k = atKey ys k := by simp [atKey, List.find?_cons, hne]
    rw [e2]
    exact atk_get hn.2 hm
theorem atk_none : ∀ {ys : List (NestedKey × Addr × Value)} {k : NestedKey}, (∀ (j : Nat) (p : Addr × Value), ys[j]? ≠ some (k, p)) → atKey ys k = none
  | [], _, _ => rfl
  | y :: ys, k, h => by
    have hne : ¬ y.1 = k := fun e => h 0 y.2 (by rw [← e]; rfl)
    have e2 : atKey (y :: ys) k = atKey ys k := by simp [atKey, List.find?_cons, hne]
    rw [e2]
    exact atk_none fun j p => h (j + 1) p
/-- what an entry of the one finds in the other -/
def hitB (ys : List (NestedKey × Addr × Value)) (f : NestedKey × Addr × Value → Addr × Value → Bool) (x : NestedKey × Addr × Value) : Bool := match atKey ys x.1 with
  | none => false
  | some p => f x p
theorem same_tup {nm : String} {a b : Addr} {xs ys : List (NestedKey × Addr × Value)} {f : NestedKey × Addr × Value → Addr × Value → Bool} {Q : Bool → Shared → Prop} (hu : A.units + 8 < cLine) (lowA : (a == sysModules) = false) (lowB : (b == sysModules) = false)
    (dA : s.heap.DictOfH (nestedKind prog w) a xs) (dB : s.heap.DictOfH (nestedKind prog w) b ys) (hf : ∀ x ∈ xs, ∀ p, atKey ys x.1 = some p → SeqAt.EqP prog w A s x.2.2 p.2 (f x p))
    (hq : Q (decide (xs.length = ys.length) && xs.all (hitB ys f)) s) : wpAny (model prog w) A (Builtin.Dict.samePairs nm a b) Q E s := by
  obtain ⟨o1, e1, n1, g1, c1, t1, l1, i1, u1⟩ := dA
  obtain ⟨o2, e2, n2, g2, c2, t2, l2, i2, u2⟩ := dB
  have z1 := size_of_entries l1
  have z2 := size_of_entries l2
  unfold Builtin.Dict.samePairs Builtin.Dict.showsAll
  rw [if_neg (by rw [lowA]; decide), if_neg (by rw [lowB]; decide)]
  refine wpAny_bind (wpAny_pure (wpAny_bind (wpAny_pure (wpAny_bind (wpAny_dictEntries g1 t1 ?_)))))
  dsimp only
  refine wpAny_bind (wpAny_dictEntries g2 t2 ?_)
  by_cases hlen : xs.length = ys.length
  · rw [decide_eq_true hlen, Bool.true_and] at hq
    rw [if_neg (by rw [z1, z2, hlen]; simp)]
    refine wpAny_bind (wpAny_dictEpoch g1 t1 (wpAny_bind ?_))
    simp only [Nat.div_one, Nat.add_sub_cancel, Nat.sub_zero, Std.Legacy.Range.size, Std.Legacy.Range.forIn_eq_forIn_range', z1]
    refine wpAny_forIn_list _ (fun todo mem t => t = s ∧ mem = (none, ()) ∧ ∃ i, i ≤ xs.length ∧ todo = List.range' i (xs.length - i) ∧ (xs.take i).all (hitB ys f) = true) _ (fun i0 todo mem t inv => ?_) (fun mem t inv => ?_) _ _ ⟨rfl, rfl, 0, Nat.zero_le _, by rw [Nat.sub_zero], rfl⟩
    · obtain ⟨rfl, rfl, i, hi, htodo, hall⟩ := inv
      have hlt : i < xs.length := by
        by_cases q : i < xs.length
        · exact q
        · rw [show xs.length - i = 0 by omega] at htodo
          cases htodo
      rw [show xs.length - i = (xs.length - (i + 1)) + 1 by omega, List.range'_succ] at htodo
      obtain ⟨rfl, rfl⟩ := List.cons.inj htodo
      have hx : xs[i0]? = some xs[i0] := List.getElem?_eq_getElem hlt
      have hxm : xs[i0] ∈ xs := List.getElem_mem hlt
      have htake : (xs.take (i0 + 1)).all (hitB ys f) = hitB ys f xs[i0] := by
        rw [List.take_add_one, hx, List.all_append, hall, Bool.true_and]
        simp
      have hwhole : hitB ys f xs[i0] = false → xs.all (hitB ys f) = false := fun h => by
        rw [List.all_eq_false]
        exact ⟨_, hxm, by rw [h]; decide⟩
      refine wpAny_bind (wpAny_dictEntries g1 t1 ?_)
      rw [entry_at l1, hx]
      generalize xs[i0] = x at hx hxm htake hwhole
      have vx := hf x hxm
      obtain ⟨k, ak, vk⟩ := x
      show wpAny _ _ (holding [Value.ref ak, vk] _ >>= _) _ _ _
      refine wpAny_bind (wpAny_holding (wpAny_bind (wpAny_dictFind_heap (knd := nestedKind prog w) (k := k) (by show A.units + 8 < cLine; exact hu) (i1 _ hxm) g2 t2 l2 i2 u2 (fun hno => ?_) fun j p hj => ?_)))
      · have hb : hitB ys f (k, ak, vk) = false := by
          unfold hitB
          rw [atk_none hno]
        refine wpAny_pure ?_
        show wpAny _ _ (if (!false) = true then _ else _) _ _ _
        rw [if_pos (show (!false) = true from rfl)]
        rw [hwhole hb] at hq
        exact wpAny_pure (wpAny_pure hq)
      · have ha := atk_get u2 hj
        refine wpAny_bind (wpAny_dictEntries g2 t2 ?_)
        rw [entry_at l2, hj]
        obtain ⟨bk, wv⟩ := p
        show wpAny _ _ (holding [wv] (eqBool vk wv)) _ _ _
        refine wpAny_holding (vx _ ha _ _ ?_)
        have hb : hitB ys f (k, ak, vk) = f (k, ak, vk) (bk, wv) := by
          unfold hitB
          rw [ha]
        cases hr : f (k, ak, vk) (bk, wv) with
        | false =>
          show wpAny _ _ (if (!false) = true then _ else _) _ _ _
          rw [if_pos (show (!false) = true from rfl)]
          rw [hwhole (hb.trans hr)] at hq
          exact wpAny_pure (wpAny_pure hq)
        | true =>
          show wpAny _ _ (if (!true) = true then _ else _) _ _ _
          rw [if_neg (by decide)]
          refine wpAny_bind (wpAny_dictEpoch g1 t1 ?_)
          rw [if_neg (by simp)]
          exact wpAny_pure ⟨rfl, rfl, i0 + 1, hlt, rfl, htake.trans (hb.trans hr)⟩
    · obtain ⟨rfl, rfl, i, hi, htodo, hall⟩ := inv
      have he : i = xs.length := by
        by_cases q : i < xs.length
        · rw [show xs.length - i = (xs.length - (i + 1)) + 1 by omega, List.range'_succ] at htodo
          cases htodo
        · omega
      rw [he, List.take_length] at hall
      rw [hall] at hq
      exact wpAny_pure hq
  · rw [decide_eq_false hlen, Bool.false_and] at hq
    rw [if_pos (by rw [z1, z2]; simpa using hlen)]
    exact wpAny_bind (wpAny_rule (wpAny_pure hq))
/-- both are dicts -/
theorem dict_two {a b : Addr} {xs ys : List (NestedKey × Addr × Value)} {f : NestedKey × Addr × Value → Addr × Value → Bool} {Q : Value → Shared → Prop} (neg : Bool) (hu : A.units + 20 < cLine) (lowA : (a == sysModules) = false) (lowB : (b == sysModules) = false)
    (dA : s.heap.DictOfH (nestedKind prog w) a xs) (dB : s.heap.DictOfH (nestedKind prog w) b ys) (hf : ∀ x ∈ xs, ∀ p, atKey ys x.1 = some p → SeqAt.EqP prog w A.in1 s x.2.2 p.2 (f x p))
    (hq : Q (.bool ((decide (xs.length = ys.length) && xs.all (hitB ys f)) != neg)) s) : wpAny (model prog w) A (compareOp (if neg then .NotEq else .Eq) (.ref a) (.ref b)) Q E s := by
  have tA := dA.typeIs
  have tB := dB.typeIs
  have hroom : A.units < cLine := by omega
  have hin : A.in1.units + 8 < cLine := by show A.units + 1 + 8 < cLine; omega
  cases neg with
  | false =>
    refine wpAny_richCompare_same_room (op := .Eq) tA tB F.slot_dict_eq (wpAny_call_entry F.slot_dict_eq tA F.entry_dict_eq ?_ (F.args_dict_eq_2 _ _)) hroom
    show wpAny _ _ (bind (Builtin.Dict.dictSlotArgs "__eq__" _) _) _ _ s
    refine wpAny_bind ?_
    unfold Builtin.Dict.dictSlotArgs
    refine wpAny_bind (wpAny_notOrdered_dict tA (wpAny_pure (wpAny_bind (wpAny_isInstance (T := "dict") tB F.sub_dict_dict ?_))))
    simp only [Bool.false_eq_true, if_false, Bool.not_true]
    refine wpAny_bind (wpAny_pure (wpAny_bind (wpAny_pure (wpAny_bind (same_tup hin lowA lowB dA dB hf ?_)))))
    exact wpAny_pure ⟨_, rfl, fun x => (nomatch x), by simpa using hq⟩
  | true =>
    refine wpAny_richCompare_same_room (op := .NotEq) tA tB F.slot_dict_ne (wpAny_call_entry F.slot_dict_ne tA F.entry_dict_ne ?_ (F.args_dict_ne_2 _ _)) hroom
    show wpAny _ _ (bind (Builtin.Dict.dictSlotArgs "__ne__" _) _) _ _ s
    refine wpAny_bind ?_
    unfold Builtin.Dict.dictSlotArgs
    refine wpAny_bind (wpAny_notOrdered_dict tA (wpAny_pure (wpAny_bind (wpAny_isInstance (T := "dict") tB F.sub_dict_dict ?_))))
    simp only [Bool.false_eq_true, if_false, Bool.not_true]
    refine wpAny_bind (wpAny_pure (wpAny_bind (wpAny_pure (wpAny_bind (same_tup hin lowA lowB dA dB hf ?_)))))
    exact wpAny_pure ⟨_, rfl, fun x => (nomatch x), by simpa using hq⟩
end
/-! over values -/
def sameI : PV → Option PV → Bool
  | .int i, some (.int j) => decide (i = j)
  | _, _ => false
def dsame : List PV → List PV → List PV → List PV → Bool
  | k :: ks, v :: vs, ls, us => sameI v (dlook ls us k) && dsame ks vs ls us
  | _, _, _, _ => true
def cmpEqD (neg : Bool) : PV → PV → M PV := fun x y st => match dctOf st x, dctOf st y with
  | some (ks, vs), some (ls, us) => match intsOf vs, intsOf us with
    | some _, some _ => if ks.all isTK && ls.all isTK then some (.bl ((decide (ks.length = ls.length) && dsame ks vs ls us) != neg), st) else none
    | _, _ => none
  | _, _ => none
def intEq : Value → Value → Bool
  | .int i _, .int j _ => i == j
  | _, _ => false
section
variable {X : Cx} {F : Hp} {ρ : Nat → Addr} {st st' : Sto} {H : Hp} {n : Nat}
theorem vals_int {vws : List V} {us : List Value} {ns : List Int} (h : Vals vws us) (e : vws = ns.map V.int) : ∀ u ∈ us, ∃ i t, u = Value.int i t := by
  subst e
  induction ns generalizing us with
  | nil =>
    cases h
    intro u hu
    cases hu
  | cons i ns ih =>
    rw [List.map_cons] at h
    cases h with
    | cons h1 h2 =>
      obtain ⟨t, rfl⟩ := h1
      intro u hu
      rcases List.mem_cons.mp hu with rfl | hu
      · exact ⟨i, t, rfl⟩
      · exact ih h2 u hu
theorem same_hits {P : Program} {wd : World} {ls us : List PV} {uws : List V} {ys : List (NestedKey × Addr × Value)} (hl : ls.map NK = ys.map (fun x => some x.1)) (ru : RelPs X.K F ρ n us uws) (rv : Vals uws (ys.map (·.2.2))) (hlen : us.length = ls.length) {ms : List Int} (hus : us = ms.map PV.int) :
    ∀ {ks vs : List PV} {vws : List V} {xs : List (NestedKey × Addr × Value)} {ns : List Int}, ks.map NK = xs.map (fun x => some x.1) → vs = ns.map PV.int → RelPs X.K F ρ n vs vws → Vals vws (xs.map (·.2.2)) → vs.length = ks.length → (∀ k ∈ ks, isTK k = true) →
      xs.all (hitB ys fun x p => intEq x.2.2 p.2) = dsame ks vs ls us
  | [], vs, vws, xs, ns, hk, hv, r, rw', hl2, _ => by
    cases xs with
    | cons _ _ => cases hk
    | nil => cases vs <;> rfl
  | k :: ks, vs, vws, xs, ns, hk, hv, r, rw', hl2, hT => by
    cases xs with
    | nil => cases hk
    | cons x xs =>
      cases ns with
      | nil => subst hv; cases hl2
      | cons i ns =>
        rw [List.map_cons] at hv
        subst hv
        rw [List.map_cons, List.map_cons] at hk
        injection hk with hk1 hk2
        obtain ⟨w, ws, rfl, r1, r2⟩ := r.inv
        rw [List.map_cons] at rw'
        cases rw' with
        | cons v1 v2 =>
          have ih := same_hits (P := P) (wd := wd) hl ru rv hlen hus hk2 rfl r2 v2 (by simpa using hl2) fun y hy => hT y (List.mem_cons_of_mem _ hy)
          rw [List.all_cons, ih]
          show _ = (sameI (.int i) (dlook ls us k) && dsame ks (ns.map PV.int) ls us)
          congr 1
          cases int_ok r1
          obtain ⟨t, ht⟩ := v1
          rcases look_ok (P := P) (wd := wd) hk1 hl ru rv hlen with ⟨e1, e2⟩ | ⟨v', w', p, e1, e2, rr, rp⟩
          · unfold hitB
            rw [e2, e1]
            rfl
          · unfold hitB
            rw [e2, e1]
            have hm : v' ∈ us := by
              have : ∀ {ls us : List PV}, dlook ls us k = some v' → v' ∈ us := by
                intro ls
                induction ls with
                | nil => intro us h; cases h
                | cons l ls ih2 =>
                  intro us h
                  cases us with
                  | nil => cases h
                  | cons u us =>
                    rw [dlook] at h
                    split at h
                    · cases h; exact List.mem_cons_self
                    · exact List.mem_cons_of_mem _ (ih2 h)
              exact this e1
            rw [hus] at hm
            obtain ⟨j, _, rfl⟩ := List.mem_map.mp hm
            cases int_ok rr
            obtain ⟨t2, ht2⟩ := rp
            show intEq x.2.2 p.2 = decide (i = j)
            rw [ht, ht2]
            show (i == j) = decide (i = j)
            exact Bool.eq_iff_iff.mpr (by rw [beq_iff_eq, decide_eq_true_iff])
theorem so_dEq (hu : X.A.units + 65 < cLine) (neg : Bool) : SndO X (compareOp (if neg then .NotEq else .Eq)) (cmpEqD neg) := by
  intro F ρ st x y w1 w2 v st' H Q W r1 r2 h c
  unfold cmpEqD at h
  split at h
  · rename_i ks vs ls us h1 h2
    split at h
    · rename_i ns ms hn hm
      split at h
      · rename_i hT
        cases h
        rw [Bool.and_eq_true, List.all_eq_true, List.all_eq_true] at hT
        obtain ⟨a, ob, kws, vws, rfl, hA, rk, rv, d⟩ := dct_ok W r1 h1
        obtain ⟨b, ob', lws, uws, rfl, hB, rl, ru, d'⟩ := dct_ok W r2 h2
        intro pins s σ uv ov I re ro
        cases re
        cases ro
        obtain ⟨xs, dk, g1, g2, g3⟩ := keyed_ok X.prog X.w I W.sub hA d rk
        obtain ⟨ys, dk', g1', g2', g3'⟩ := keyed_ok X.prog X.w I W.sub hB d' rl
        have ev := ints_map hn
        have eu := ints_map hm
        have vi := vals_int g2 (RelPs.intsInv hn rv)
        have ui := vals_int g2' (RelPs.intsInv hm ru)
        have key := same_hits (P := X.prog) (wd := X.w) g1' ru g2' (dobj_len d' rl ru) eu g1 ev rv g2 (dobj_len d rk rv) hT.1
        refine dict_two neg (by omega) d.2.2.1 d'.2.2.1 dk dk' (f := fun x p => intEq x.2.2 p.2) (fun x hx p hp => ?_) ?_
        · obtain ⟨i, t, e1⟩ := vi x.2.2 (List.mem_map.mpr ⟨x, hx, rfl⟩)
          have hpm : p.2 ∈ ys.map (·.2.2) := by
            unfold atKey at hp
            obtain ⟨q, hq, rfl⟩ := Option.map_eq_some_iff.mp hp
            exact List.mem_map.mpr ⟨q, List.mem_of_find?_eq_some hq, rfl⟩
          obtain ⟨j, t2, e2⟩ := ui p.2 hpm
          rw [e1, e2]
          intro E Q hQ
          exact wpAny_eqBool_int hQ
        · rw [key, g3, g3']
          exact ⟨.bl _, H, I, rfl, c.here W (rel_bl _)⟩
      · cases h
    · cases h
  · cases h
end
/-- x >= y: ints, or data that are alike -/
def cmpGe : PV → PV → M PV
  | .int a, .int b, st => some (.bl (decide (b ≤ a)), st)
  | .tup xs, .tup ys, st => match (PV.tup xs).toD st.cs, (PV.tup ys).toD st.cs with
    | some d, some e => if PySem.W.alike d e && decide (min d.depth e.depth ≤ 60) then some (.bl (!PySem.W.dataLt d e), st) else none
    | _, _ => none
  | _, _, _ => none
theorem so_geD {X : Cx} (hu : X.A.units + 65 < cLine) : SndO X (compareOp .GtE) cmpGe := by
  intro F ρ st x y w1 w2 v st' H Q W r1 r2 h c
  unfold cmpGe at h
  split at h
  · cases h
    cases int_ok r1; cases int_ok r2
    exact wR_of op_ge ⟨_, _, rfl, rfl, c.here W (rel_bl _)⟩
  · split at h
    · rename_i d e h1 h2
      split at h
      · rename_i hz
        cases h
        rw [Bool.and_eq_true, decide_eq_true_eq] at hz
        have d1 := dp_ok W.sub r1 h1
        have d2 := dp_ok W.sub r2 h2
        have hn : d ≠ .none := by
          rw [PV.toD] at h1
          intro z
          subst z
          cases q : toDs st.cs _ with
          | none => rw [q] at h1; cases h1
          | some _ => rw [q] at h1; cases h1
        intro pins s σ v u I rv ru
        obtain ⟨as, ra⟩ := Dp.reads I d w1 v d1 rv
        obtain ⟨bs, rb⟩ := Dp.reads I e w2 u d2 ru
        show wpAny _ _ (richCompare .GtE v u) _ _ s
        exact PySem.W.rcGe_alike d e X.A s v u as bs ra rb hz.1 hn (by omega) X.prog X.w _ _ ⟨.bl _, H, I, rfl, c.here W (rel_bl _)⟩
      · cases h
    · cases h
  · cases h
end DL

/-! DLW: a dict told by its pairs, keys ints or strings. -/
namespace DL
open PySem PySem.Spec PyProof.Rows L2

/-- {k: v, ..}, nobody changes it -/
def dDisp (ks : List KK) (a : DA) : DE := fun env st => mb (a env st) fun vs st1 => if ks.length = vs.length ∧ ks.length ≤ 15 ∧ ks.Pairwise (· ≠ ·) then some (.dki ks vs, st1) else none
theorem kvI_mem {k : KK} {v : V} : ∀ {ks : List KK} {ws : List V}, (k, v) ∈ kvI ks ws → k ∈ ks
  | [], ws, h => by rw [kvI] at h <;> first | cases h | (intro _ _ _ _ z; cases z)
  | _ :: _, [], h => by rw [kvI] at h <;> first | cases h | (intro _ _ _ _ _ z; cases z)
  | a :: ks, w :: ws, h => by
    rw [kvI] at h
    rcases List.mem_cons.mp h with h | h
    · cases h; exact List.mem_cons_self
    · exact List.mem_cons_of_mem _ (kvI_mem h)
theorem merge_kvI : ∀ {ks : List KK} {ws : List V} {acc : List (Key × V)}, ks.Pairwise (· ≠ ·) → (∀ k ∈ ks, ∀ x ∈ acc, x.1 ≠ k) → mergeK acc (kvI ks ws) = acc ++ kvI ks ws
  | [], ws, acc, _, _ => by rw [kvI] <;> first | (show acc = acc ++ []; rw [List.append_nil]) | (intro _ _ _ _ z; cases z)
  | _ :: _, [], acc, _, _ => by rw [kvI] <;> first | (show acc = acc ++ []; rw [List.append_nil]) | (intro _ _ _ _ _ z; cases z)
  | k :: ks, w :: ws, acc, hn, ha => by
    obtain ⟨h1, h2⟩ := List.pairwise_cons.mp hn
    have e : putK acc k w = acc ++ [(k, w)] := by
      unfold putK
      rw [if_neg]
      intro h
      obtain ⟨x, hx, hk⟩ := List.any_eq_true.mp h
      exact ha k List.mem_cons_self x hx (of_decide_eq_true hk)
    rw [kvI]
    show mergeK (putK acc k w) (kvI ks ws) = _
    rw [e, merge_kvI h2 fun j hj x hx => ?_, List.append_assoc]
    · rfl
    · rcases List.mem_append.mp hx with hx | hx
      · exact ha j (List.mem_cons_of_mem _ hj) x hx
      · rw [List.mem_singleton.mp hx]
        exact h1 j hj
def SndPs (X : Cx) (ks : List KK) (trs : List (TE × TE)) (D : DA) : Prop := ∀ F ρ env st vs st' σ H Q, Wld X.K F ρ st H → ERel X.K F ρ st.nxt env σ → D env st = some (vs, st') →
  (∀ F' ρ' ws H', Pst X.K F ρ st H F' ρ' st' H' → RelPs X.K F' ρ' st'.nxt vs ws → Q ((kvI ks ws).map fun kv => (kV kv.1, kv.2)) H') → tPairs trs σ H Q
theorem sps_nil {X : Cx} : SndPs X [] [] aNil := fun F ρ env st vs st' σ H Q W E h c => by
  cases h
  have := c F ρ [] H (Pst.refl W) .nil
  rw [kvI] at this <;> first | exact this | (intro _ _ _ _ z; cases z)
theorem sps_cons {X : Cx} {k : KK} {ks : List KK} {trs : List (TE × TE)} {e : Expr} {A : DE} {D : DA} (ha : SndE X e A) (hr : SndPs X ks trs D) : SndPs X (k :: ks) ((fun σ H Q => Q (kV k) H, wE X e) :: trs) (aCons A D) := fun F ρ env st vs st' σ H Q W E h c => by
  obtain ⟨x, st1, h1, hA⟩ := mb_eq h
  obtain ⟨xs, st2, h2, hB⟩ := mb_eq hA
  cases hB
  refine ha F ρ env st x st1 σ H _ W E h1 fun F1 ρ1 w1 H1 p1 r1 => ?_
  refine hr F1 ρ1 env st1 xs _ σ H1 _ p1.wld (E.step p1) h2 fun F2 ρ2 ws H2 p2 r2 => ?_
  have := c F2 ρ2 (w1 :: ws) H2 (p1.trans p2) (.cons (r1.step p2) r2)
  rw [kvI] at this
  exact this
theorem snd_disp {X : Cx} {ks : List KK} {keys : List (Option Expr)} {values : List Expr} {trs : List (TE × TE)} {D : DA} {pos : Pos} (hp : PPs X pos keys values trs) (hs : SndPs X ks trs D) (hall : keys.all (·.isSome) = true) (hl : keys.length = values.length) (h0 : keys ≠ []) (h15 : keys.length ≤ 15) :
    SndE X (.Dict keys values pos) (dDisp ks D) := by
  intro F ρ env st v st' σ H Q W E h c
  obtain ⟨vs, st1, h1, hA⟩ := mb_eq h
  clear h
  split at hA
  · rename_i hk
    obtain ⟨k1, k2, k3⟩ := hk
    cases hA
    refine wE_of (pe_disp hp hall hl h0 h15) fun p hpn => ?_
    have fD : F p = none := by
      cases e : F p with
      | none => rfl
      | some u => have := W.sub p u e; rw [hpn] at this; cases this
    have nD : ∀ l c, st.cs l = some c → ρ l ≠ p := fun l c z => W.ne z hpn
    have p0 := (Pst.refl W).side (o := .dK []) hpn fD nD
    have hp1 : (upd H p (.dK [])) p = some (.dK []) := upd_same
    refine hs F ρ env st vs _ σ _ _ p0.wld E h1 fun F2 ρ2 ws H2 p1 r => ?_
    have e2 : H2 p = some (.dK []) := p1.ext p _ hp1 nD
    have f2 : F2 p = none := by
      cases e : F2 p with
      | none => rfl
      | some u =>
        rcases p1.fz p u e with h | h | ⟨l, c, h, h'⟩
        · rw [fD] at h; cases h
        · rw [hp1] at h; cases h
        · exact absurd h' (nD l c h)
    have n2 : ∀ l c, st'.cs l = some c → ρ2 l ≠ p := fun l c z e => by
      by_cases q : l < st.nxt
      · obtain ⟨c0, h0⟩ := p1.live l c q z
        exact nD l c0 h0 ((p1.rho l q).symm.trans e)
      · have := p1.fresh l c (Nat.not_lt.mp q) z
        rw [e, hp1] at this
        cases this
    have P := (((p0.trans p1).side (o := .dK (kvI ks ws)) hpn f2 n2).keepV (o := .dK (kvI ks ws)) hpn f2 n2 upd_same)
    refine ⟨e2, kvI ks ws, rfl, ?_, ?_⟩
    · rw [kvI_len (by rw [k1, r.length])]
      exact k2
    · have em : mergeK [] (kvI ks ws) = kvI ks ws := merge_kvI k3 (fun k _ x hx => by cases hx)
      rw [em]
      refine c _ _ _ _ P ?_
      rw [RelP]
      exact ⟨p, ws, rfl, upd_same, k1, r.mono (fun a u z => by rw [upd_ne (ne_of_none z f2)]; exact z) (fun _ _ => rfl) (Nat.le_refl _)⟩
  · cases hA
end DL

/-! DL4: what is walked, targets, comprehensions, statements, loops. -/
namespace DL
open PySem PySem.Spec PyProof.Rows L2

section
variable {X : Cx}
/-- an iterator that gives the items -/
def Drv (K : PySem.W.Frag) (F : Hp) (ρ : Nat → Addr) (st : Sto) (H : Hp) (its : Its) (J : It) : Prop :=
  ∀ F2 ρ2 st2 H2 (i : Nat), Pst K F ρ st H F2 ρ2 st2 H2 → its.ok st2 →
    (∀ x, its.items[i]? = some x → J.go i H2 ∧ ∀ w H3, J.yld i H2 w H3 → ∃ F3, Pst K F2 ρ2 st2 H2 F3 ρ2 st2 H3 ∧ RelP K F3 ρ2 st2.nxt x w) ∧ (its.items.length ≤ i → J.stop i H2)
def SndI (X : Cx) (tg it : Expr) (D : DI) : Prop := ∀ F ρ env st its st' σ H R, Wld X.K F ρ st H → ERel X.K F ρ st.nxt env σ → D env st = some (its, st') →
  (∀ F' ρ' J H', Pst X.K F ρ st H F' ρ' st' H' → Drv X.K F' ρ' st' H' its J → R J H') → wI X tg it σ H R
/-- σ' is σ but for the slots js -/
def SameBut (js : List Nat) (σ σ' : L2.St) : Prop := σ'.length = σ.length ∧ ∀ j, j ∉ js → σ'[j]? = σ[j]?
theorem SameBut.refl {js : List Nat} {σ : L2.St} : SameBut js σ σ := ⟨rfl, fun _ _ => rfl⟩
theorem SameBut.set {i : Nat} {σ : L2.St} {v : Option V} : SameBut [i] σ (σ.set i v) := ⟨List.length_set, fun j h => List.getElem?_set_ne (fun e => h (by simp [e]))⟩
theorem SameBut.trans {js ks : List Nat} {σ σ1 σ2 : L2.St} (a : SameBut js σ σ1) (b : SameBut ks σ1 σ2) : SameBut (js ++ ks) σ σ2 :=
  ⟨b.1.trans a.1, fun j h => by rw [List.mem_append, not_or] at h; rw [b.2 j h.2, a.2 j h.1]⟩
theorem wipe_get : ∀ (us : List Nat) (τ : L2.St) (j : Nat), (L2.wipe τ us)[j]? = if j ∈ us ∧ j < τ.length then some none else τ[j]?
  | [], τ, j => by simp [L2.wipe]
  | u :: us, τ, j => by
    rw [L2.wipe]
    by_cases q : u = j
    · subst q
      by_cases hl : u < τ.length
      · rw [List.getElem?_set_self (by rw [L2.wipe_length]; exact hl), if_pos ⟨List.mem_cons_self, hl⟩]
      · rw [List.getElem?_eq_none (by rw [List.length_set, L2.wipe_length]; omega), if_neg (fun z => hl z.2), List.getElem?_eq_none (by omega)]
    · rw [List.getElem?_set_ne q, wipe_get us τ j]
      have : (j ∈ u :: us) ↔ j ∈ us := by simp [Ne.symm q]
      simp only [this]
theorem wipe_wipe (σ : L2.St) (vs : List Nat) : L2.wipe (L2.wipe σ vs) vs = L2.wipe σ vs := by
  apply List.ext_getElem?
  intro j
  rw [wipe_get, wipe_get, L2.wipe_length]
  split <;> rfl
theorem SameBut.wipe {js vs : List Nat} {σ σ' : L2.St} (h : SameBut js σ σ') (hs : ∀ j ∈ js, j ∈ vs) : L2.wipe σ' vs = L2.wipe σ vs := by
  apply List.ext_getElem?
  intro j
  rw [wipe_get, wipe_get, h.1]
  split
  · rfl
  · rename_i q
    by_cases z : j ∈ js
    · have z2 := hs j z
      have : ¬ j < σ.length := fun w => q ⟨z2, w⟩
      rw [List.getElem?_eq_none (l := σ') (by rw [h.1]; omega), List.getElem?_eq_none (by omega)]
    · exact h.2 j z
def SndG (X : Cx) (tg : Expr) (G : DG) (js : List Nat) : Prop := ∀ F ρ env st v w e' st' σ H Q, Wld X.K F ρ st H → ERel X.K F ρ st.nxt env σ → RelP X.K F ρ st.nxt v w → G v env st = some (e', st') →
  (∀ F' ρ' σ' H', Pst X.K F ρ st H F' ρ' st' H' → ERel X.K F' ρ' st'.nxt e' σ' → SameBut js σ σ' → Q σ' H') → wG X tg w σ H Q
def SndGs (X : Cx) (ts : List Expr) (G : List PV → Env → M Env) (js : List Nat) : Prop := ∀ F ρ env st vs ws e' st' σ H Q, Wld X.K F ρ st H → ERel X.K F ρ st.nxt env σ → RelPs X.K F ρ st.nxt vs ws → G vs env st = some (e', st') →
  (∀ F' ρ' σ' H', Pst X.K F ρ st H F' ρ' st' H' → ERel X.K F' ρ' st'.nxt e' σ' → SameBut js σ σ' → Q σ' H') → wGs X ts ws σ H Q
variable {pos : Pos} {a b c e tg : Expr} {A B C : DE}

/-! ### what is walked -/
theorem drv_val {K : PySem.W.Frag} {F : Hp} {ρ : Nat → Addr} {st : Sto} {H : Hp} {xs : List PV} {p : Addr} {vs : List V} (h : F p = some (.lst vs)) (r : RelPs K F ρ st.nxt xs vs) : Drv K F ρ st H ⟨xs, none⟩ (Itl K p) := by
  intro F2 ρ2 st2 H2 i pst _
  have s := pst.ex
  have hr := pst.rho
  have hn := pst.nxt
  have W := pst.wld
  have hH : SqL K H2 p vs := .inl (.inl (W.sub _ _ (s _ _ h)))
  refine ⟨fun x hx => ?_, fun hl => ⟨vs, hH, by rw [← r.length]; exact hl⟩⟩
  obtain ⟨w, hw, rw'⟩ := r.get hx
  refine ⟨⟨vs, w, hH, hw⟩, fun u H3 hy => ?_⟩
  obtain ⟨rfl, hy⟩ := hy
  have e := hy vs hH
  rw [hw] at e; cases e
  exact ⟨F2, Pst.refl W, rw'.mono s hr hn⟩
theorem drv_tup {K : PySem.W.Frag} {F : Hp} {ρ : Nat → Addr} {st : Sto} {H : Hp} {xs : List PV} {p : Addr} {vs : List V} (h : SqT K F p vs) (r : RelPs K F ρ st.nxt xs vs) : Drv K F ρ st H ⟨xs, none⟩ (Itt K p) := by
  intro F2 ρ2 st2 H2 i pst _
  have s := pst.ex
  have hr := pst.rho
  have hn := pst.nxt
  have W := pst.wld
  have hH : SqT K H2 p vs := W.sub.sqT (s.sqT h)
  refine ⟨fun x hx => ?_, fun hl => ⟨vs, hH, by rw [← r.length]; exact hl⟩⟩
  obtain ⟨w, hw, rw'⟩ := r.get hx
  refine ⟨⟨vs, w, hH, hw⟩, fun u H3 hy => ?_⟩
  obtain ⟨rfl, hy⟩ := hy
  have e := hy vs hH
  rw [hw] at e; cases e
  exact ⟨F2, Pst.refl W, rw'.mono s hr hn⟩
theorem drv_loc {K : PySem.W.Frag} {F : Hp} {ρ : Nat → Addr} {st : Sto} {H : Hp} {l : Nat} {xs : List PV} (hl : l < st.nxt) : Drv K F ρ st H ⟨xs, some (l, .lst xs)⟩ (Itl K (ρ l)) := by
  intro F2 ρ2 st2 H2 i pst ok
  have s := pst.ex
  have hr := pst.rho
  have hn := pst.nxt
  have W := pst.wld
  have ok : st2.cs l = some (.lst xs) := ok
  obtain ⟨_, vs, e, r⟩ := W.cell l _ ok
  rw [hr l hl] at e
  have hH : SqL K H2 (ρ l) vs := .inl (.inl e)
  refine ⟨fun x hx => ?_, fun hl => ⟨vs, hH, by rw [← r.length]; exact hl⟩⟩
  obtain ⟨w, hw, rw'⟩ := r.get hx
  refine ⟨⟨vs, w, hH, hw⟩, fun u H3 hy => ?_⟩
  obtain ⟨rfl, hy⟩ := hy
  have e := hy vs hH
  rw [hw] at e; cases e
  exact ⟨F2, Pst.refl W, rw'⟩
theorem drv_rng {K : PySem.W.Frag} {F : Hp} {ρ : Nat → Addr} {st : Sto} {H : Hp} {lo hi : Int} : Drv K F ρ st H ⟨rng lo hi, none⟩ (Itr lo (hi - lo).toNat) := by
  intro F2 ρ2 st2 H2 i pst _
  have s := pst.ex
  have hr := pst.rho
  have hn := pst.nxt
  have W := pst.wld
  refine ⟨fun x hx => ?_, fun hl => ?_⟩
  · have hx : (rng lo hi)[i]? = some x := hx
    unfold rng at hx
    rw [List.getElem?_map] at hx
    by_cases hi' : i < (hi - lo).toNat
    · rw [List.getElem?_range hi'] at hx
      cases hx
      refine ⟨hi', fun u H3 hy => ?_⟩
      obtain ⟨rfl, rfl⟩ := hy
      exact ⟨F2, Pst.refl W, rel_int _⟩
    · rw [List.getElem?_eq_none (by rw [List.length_range]; omega)] at hx
      cases hx
  · have hl : (rng lo hi).length ≤ i := hl
    unfold rng at hl
    rw [List.length_map, List.length_range] at hl
    exact hl
theorem drv_rev {K : PySem.W.Frag} {F : Hp} {ρ : Nat → Addr} {st : Sto} {H : Hp} {xs : List PV} {p : Addr} {vs : List V} (h : F p = some (.lst vs)) (r : RelPs K F ρ st.nxt xs vs) : Drv K F ρ st H ⟨xs.reverse, none⟩ (Itv K p vs.length) := by
  intro F2 ρ2 st2 H2 i pst _
  have s := pst.ex
  have hr := pst.rho
  have hn := pst.nxt
  have W := pst.wld
  have hH : SqL K H2 p vs := .inl (.inl (W.sub _ _ (s _ _ h)))
  have hl := r.length
  refine ⟨fun x hx => ?_, fun hz => ?_⟩
  · have hx : xs.reverse[i]? = some x := hx
    have hi : i < xs.length := by
      by_cases q : i < xs.length
      · exact q
      · rw [List.getElem?_eq_none (by rw [List.length_reverse]; omega)] at hx; cases hx
    rw [List.getElem?_reverse hi] at hx
    obtain ⟨w, hw, rw'⟩ := r.get hx
    rw [hl] at hw
    refine ⟨⟨by omega, vs, w, hH, hw⟩, fun u H3 hy => ?_⟩
    obtain ⟨rfl, hy⟩ := hy
    have e := hy vs hH
    rw [hw] at e; cases e
    exact ⟨F2, Pst.refl W, rw'.mono s hr hn⟩
  · have hz : xs.reverse.length ≤ i := hz
    rw [List.length_reverse] at hz
    show vs.length ≤ i
    omega
theorem drv_keys {K : PySem.W.Frag} {F : Hp} {ρ : Nat → Addr} {st : Sto} {H : Hp} {ks : List PV} {a : Addr} {ob : Obj} {kws : List V} (h : F a = some (dO a ob)) (r : RelPs K F ρ st.nxt ks kws) : Drv K F ρ st H ⟨ks, none⟩ (ItkO a ob kws) := by
  intro F2 ρ2 st2 H2 i pst _
  have s := pst.ex
  have hr := pst.rho
  have hn := pst.nxt
  have W := pst.wld
  have hH : H2 a = some (dO a ob) := W.sub _ _ (s _ _ h)
  have hl := r.length
  refine ⟨fun x hx => ?_, fun hz => ⟨hH, by rw [← hl]; exact hz⟩⟩
  obtain ⟨w, hw, rw'⟩ := r.get hx
  refine ⟨⟨hH, (List.getElem?_eq_some_iff.mp hw).1⟩, fun u H3 hy => ?_⟩
  obtain ⟨rfl, hy⟩ := hy
  rw [hw] at hy; cases hy
  exact ⟨F2, Pst.refl W, rw'.mono s hr hn⟩
theorem drv_keysL {K : PySem.W.Frag} {F : Hp} {ρ : Nat → Addr} {st : Sto} {H : Hp} {l : Nat} {ks vs : List PV} {t : Nat} {ob : Obj} {kws : List V} (hl : st.cs l = some (.dct ks vs t)) (h : H (ρ l) = some (dO (ρ l) ob)) (r : RelPs K F ρ st.nxt ks kws) : Drv K F ρ st H ⟨ks, some (l, .dct ks vs t)⟩ (ItkO (ρ l) ob kws) := by
  intro F2 ρ2 st2 H2 i pst ok
  have s := pst.ex
  have hr := pst.rho
  have hn := pst.nxt
  have W := pst.wld
  have ok : st2.cs l = some (.dct ks vs t) := ok
  obtain ⟨ks0, vs0, t0, g1, _, g3⟩ := pst.tk l ks vs t (Sto.lt_of hl) ok
  rw [hl] at g1
  cases g1
  have hH : H2 (ρ l) = some (dO (ρ l) ob) := (g3 rfl).trans h
  have hlen := r.length
  refine ⟨fun x hx => ?_, fun hz => ⟨hH, by rw [← hlen]; exact hz⟩⟩
  obtain ⟨w, hw, rw'⟩ := r.get hx
  refine ⟨⟨hH, (List.getElem?_eq_some_iff.mp hw).1⟩, fun u H3 hy => ?_⟩
  obtain ⟨rfl, hy⟩ := hy
  rw [hw] at hy; cases hy
  exact ⟨F2, Pst.refl W, rw'.mono s hr hn⟩
theorem drv_items {K : PySem.W.Frag} {F : Hp} {ρ : Nat → Addr} {st : Sto} {H : Hp} {ks vs : List PV} {a : Addr} {ob : Obj} {kws vws : List V} (h : F a = some (dO a ob)) (r : RelPs K F ρ st.nxt ks kws) (r2 : RelPs K F ρ st.nxt vs vws) (hl : vs.length = ks.length) : Drv K F ρ st H ⟨List.zipWith (fun k v => PV.tup [k, v]) ks vs, none⟩ (ItiO a ob kws vws) := by
  intro F2 ρ2 st2 H2 i pst _
  have s := pst.ex
  have hr := pst.rho
  have hn := pst.nxt
  have W := pst.wld
  have hH : H2 a = some (dO a ob) := W.sub _ _ (s _ _ h)
  have hk := r.length
  have hz : (List.zipWith (fun k v => PV.tup [k, v]) ks vs).length = ks.length := by rw [List.length_zipWith, hl, Nat.min_self]
  refine ⟨fun x hx => ?_, fun hz' => ⟨hH, ?_⟩⟩
  · have hx : (List.zipWith (fun k v => PV.tup [k, v]) ks vs)[i]? = some x := hx
    have hi : i < ks.length := by rw [← hz]; exact (List.getElem?_eq_some_iff.mp hx).1
    rw [List.getElem?_zipWith, List.getElem?_eq_getElem hi, List.getElem?_eq_getElem (by omega)] at hx
    cases hx
    obtain ⟨w1, hw1, rw1⟩ := r.get (List.getElem?_eq_getElem hi)
    obtain ⟨w2, hw2, rw2⟩ := r2.get (List.getElem?_eq_getElem (show i < vs.length by omega))
    refine ⟨⟨hH, (List.getElem?_eq_some_iff.mp hw1).1⟩, fun u H3 hy => ?_⟩
    obtain ⟨T, k, v, h1, h2, rfl, h3, rfl⟩ := hy
    rw [hw1] at h1; cases h1
    rw [hw2] at h2; cases h2
    have p := W.new (o := .tup [w1, w2]) h3
    refine ⟨_, p, ?_⟩
    rw [RelP]
    refine ⟨T, [w1, w2], rfl, .inl (.inl upd_same), .cons ((rw1.mono s hr hn).mono p.ex (fun _ _ => rfl) (Nat.le_refl _)) (.cons ((rw2.mono s hr hn).mono p.ex (fun _ _ => rfl) (Nat.le_refl _)) .nil)⟩
  · have hz' : (List.zipWith (fun k v => PV.tup [k, v]) ks vs).length ≤ i := hz'
    rw [hz] at hz'
    omega
theorem si_items {o : Expr} {A : DE} {apos cpos : Pos} {elts : List Expr} {kk : Nat} {tpos : Pos} (hb : attributeBase o "items" X.env (eval o X.env) = eval o X.env) (hl : (apos.endLine == cpos.line) = true) (ha : SndE X o A) : SndI X (.Tuple elts kk tpos) (.Call (.Attribute o "items" apos) [] [] cpos) (iItems A) := by
  intro F ρ env st its st' σ H R W E h c
  obtain ⟨x, st1, h1, h⟩ := mb_eq h
  unfold itsItems at h
  split at h
  · cases h
    refine wI_of (pi_itemsO pe_w hb hl) (ha F ρ env st _ _ σ H _ W E h1 fun F1 ρ1 w1 H1 p1 r1 => ?_)
    rw [RelP] at r1
    obtain ⟨a, ob, kws, vws, rfl, q, r2, r3, d⟩ := r1
    have hll := dobj_len d r2 r3
    obtain ⟨hx, ⟨es, ep, hdt, he⟩, hs, _, _⟩ := d
    exact ⟨a, ob, kws, vws, es, ep, rfl, p1.wld.sub _ _ q, hx, hs, hdt, esr_keys he, esr_vals he, c F1 ρ1 _ H1 p1 (drv_items q r2 r3 hll)⟩
  · cases h
/-! enumerate -/
theorem numb_get : ∀ (xs : List PV) (k i : Nat), (numb k xs)[i]? = xs[i]?.map fun x => PV.tup [.int ((k + i : Nat) : Int), x]
  | [], k, i => by rw [numb]; simp
  | x :: r, k, 0 => by rw [numb]; simp
  | x :: r, k, i + 1 => by
    rw [numb, List.getElem?_cons_succ, List.getElem?_cons_succ, numb_get r (k + 1) i]
    rw [show k + 1 + i = k + (i + 1) by omega]
theorem numb_len : ∀ (xs : List PV) (k : Nat), (numb k xs).length = xs.length
  | [], k => by rw [numb]
  | x :: r, k => by rw [numb, List.length_cons, List.length_cons, numb_len r]
theorem drv_pair {K : PySem.W.Frag} {F2 : Hp} {ρ2 : Nat → Addr} {st2 : Sto} {H2 : Hp} {T : Addr} {i : Nat} {x : PV} {w : V} (W : Wld K F2 ρ2 st2 H2) (hT : H2 T = none) (r : RelP K F2 ρ2 st2.nxt x w) :
    ∃ F3, Pst K F2 ρ2 st2 H2 F3 ρ2 st2 (upd H2 T (.tup [.int (i : Nat), w])) ∧ RelP K F3 ρ2 st2.nxt (.tup [.int ((0 + i : Nat) : Int), x]) (.ref T) := by
  have p := W.new (o := .tup [.int (i : Nat), w]) hT
  refine ⟨_, p, ?_⟩
  rw [RelP]
  refine ⟨T, [.int (i : Nat), w], rfl, .inl (.inl upd_same), .cons ?_ (.cons (r.mono p.ex (fun _ _ => rfl) (Nat.le_refl _)) .nil)⟩
  rw [Nat.zero_add]
  exact rel_int _
theorem drv_enV {K : PySem.W.Frag} {F : Hp} {ρ : Nat → Addr} {st : Sto} {H : Hp} {xs : List PV} {p : Addr} {vs : List V} (h : F p = some (.lst vs)) (r : RelPs K F ρ st.nxt xs vs) : Drv K F ρ st H ⟨numb 0 xs, none⟩ (Ite K p) := by
  intro F2 ρ2 st2 H2 i pst _
  have s := pst.ex
  have hr := pst.rho
  have hn := pst.nxt
  have W := pst.wld
  have hH : SqL K H2 p vs := .inl (.inl (W.sub _ _ (s _ _ h)))
  refine ⟨fun x hx => ?_, fun hl => ⟨vs, hH, by rw [← r.length]; exact (by rw [show (numb 0 xs).length = xs.length from numb_len xs 0] at hl; exact hl)⟩⟩
  have hx : (numb 0 xs)[i]? = some x := hx
  rw [numb_get] at hx
  cases e : xs[i]? with
  | none => rw [e] at hx; cases hx
  | some y =>
    rw [e] at hx; cases hx
    obtain ⟨w, hw, rw'⟩ := r.get e
    refine ⟨⟨vs, w, hH, hw⟩, fun u H3 hy => ?_⟩
    obtain ⟨T, z, rfl, hT, rfl, hz⟩ := hy
    have e2 := hz vs hH
    rw [hw] at e2; cases e2
    exact drv_pair W hT (rw'.mono s hr hn)
theorem drv_enT {K : PySem.W.Frag} {F : Hp} {ρ : Nat → Addr} {st : Sto} {H : Hp} {xs : List PV} {p : Addr} {vs : List V} (h : SqT K F p vs) (r : RelPs K F ρ st.nxt xs vs) : Drv K F ρ st H ⟨numb 0 xs, none⟩ (IteT K p) := by
  intro F2 ρ2 st2 H2 i pst _
  have s := pst.ex
  have hr := pst.rho
  have hn := pst.nxt
  have W := pst.wld
  have hH : SqT K H2 p vs := W.sub.sqT (s.sqT h)
  refine ⟨fun x hx => ?_, fun hl => ⟨vs, hH, by rw [← r.length]; exact (by rw [show (numb 0 xs).length = xs.length from numb_len xs 0] at hl; exact hl)⟩⟩
  have hx : (numb 0 xs)[i]? = some x := hx
  rw [numb_get] at hx
  cases e : xs[i]? with
  | none => rw [e] at hx; cases hx
  | some y =>
    rw [e] at hx; cases hx
    obtain ⟨w, hw, rw'⟩ := r.get e
    refine ⟨⟨vs, w, hH, hw⟩, fun u H3 hy => ?_⟩
    obtain ⟨T, z, rfl, hT, rfl, hz⟩ := hy
    have e2 := hz vs hH
    rw [hw] at e2; cases e2
    exact drv_pair W hT (rw'.mono s hr hn)
theorem drv_enL {K : PySem.W.Frag} {F : Hp} {ρ : Nat → Addr} {st : Sto} {H : Hp} {l : Nat} {xs : List PV} (hl : l < st.nxt) : Drv K F ρ st H ⟨numb 0 xs, some (l, .lst xs)⟩ (Ite K (ρ l)) := by
  intro F2 ρ2 st2 H2 i pst ok
  have s := pst.ex
  have hr := pst.rho
  have hn := pst.nxt
  have W := pst.wld
  have ok : st2.cs l = some (.lst xs) := ok
  obtain ⟨_, vs, e, r⟩ := W.cell l _ ok
  rw [hr l hl] at e
  have hH : SqL K H2 (ρ l) vs := .inl (.inl e)
  refine ⟨fun x hx => ?_, fun hl => ⟨vs, hH, by rw [← r.length]; exact (by rw [show (numb 0 xs).length = xs.length from numb_len xs 0] at hl; exact hl)⟩⟩
  have hx : (numb 0 xs)[i]? = some x := hx
  rw [numb_get] at hx
  cases e3 : xs[i]? with
  | none => rw [e3] at hx; cases hx
  | some y =>
    rw [e3] at hx; cases hx
    obtain ⟨w, hw, rw'⟩ := r.get e3
    refine ⟨⟨vs, w, hH, hw⟩, fun u H3 hy => ?_⟩
    obtain ⟨T, z, rfl, hT, rfl, hz⟩ := hy
    have e2 := hz vs hH
    rw [hw] at e2; cases e2
    exact drv_pair W hT rw'
theorem si_enum {p pos tpos : Pos} {elts : List Expr} {kk : Nat} (hg : Gl X "enumerate") (hm : X.mg "enumerate" = none) (hs : starEach [a] X.env = [(false, eval a X.env)]) (ha : SndE X a A) : SndI X (.Tuple elts kk tpos) (.Call (.Name "enumerate" p) [a] [] pos) (iEnumP A) := by
  intro F ρ env st its st' σ H R W E h c
  obtain ⟨x, st1, h1, h⟩ := mb_eq h
  unfold itsEnum at h
  split at h
  · cases h
    refine wI_of (pi_enum hg hm (pa_cons pe_w pa_nil hs) hs) ?_
    refine ha F ρ env st _ _ σ H _ W E h1 fun F1 ρ1 w1 H1 p1 r1 => ?_
    rw [RelP] at r1
    obtain ⟨q, vs, rfl, z, r⟩ := r1
    exact ⟨q, vs, rfl, .inl (.inl (p1.wld.sub _ _ z)), c F1 ρ1 _ H1 p1 (drv_enV z r)⟩
  · cases h
    refine wI_of (pi_enumT hg hm (pa_cons pe_w pa_nil hs) hs) ?_
    refine ha F ρ env st _ _ σ H _ W E h1 fun F1 ρ1 w1 H1 p1 r1 => ?_
    rw [RelP] at r1
    obtain ⟨q, vs, rfl, z, r⟩ := r1
    exact ⟨q, vs, rfl, p1.wld.sub.sqT z, c F1 ρ1 _ H1 p1 (drv_enT z r)⟩
  · split at h
    · rename_i l _ xs hl
      cases h
      refine wI_of (pi_enum hg hm (pa_cons pe_w pa_nil hs) hs) ?_
      refine ha F ρ env st _ _ σ H _ W E h1 fun F1 ρ1 w1 H1 p1 r1 => ?_
      rw [RelP] at r1
      obtain ⟨q, rfl⟩ := r1
      obtain ⟨_, vs, e, r⟩ := p1.wld.cell l _ hl
      exact ⟨_, vs, rfl, .inl (.inl e), c F1 ρ1 _ H1 p1 (drv_enL q)⟩
    · cases h
  · cases h
theorem si_rev {p pos : Pos} (hg : Gl X "reversed") (hm : X.mg "reversed" = none) (hs : starEach [a] X.env = (false, eval a X.env) :: starEach [] X.env) (ha : SndE X a A) : SndI X tg (.Call (.Name "reversed" p) [a] [] pos) (iRev A) := by
  intro F ρ env st its st' σ H R W E h c
  obtain ⟨x, st1, h1, h⟩ := mb_eq h
  unfold itsRev at h
  split at h
  · cases h
    refine wI_of (RT.pi_revA hg hm pe_w hs) (ha F ρ env st _ _ σ H _ W E h1 fun F1 ρ1 w1 H1 p1 r1 => ?_)
    rw [RelP] at r1
    obtain ⟨p, vs, rfl, q, r⟩ := r1
    exact ⟨p, vs, rfl, .inl ⟨.inl (.inl (p1.wld.sub _ _ q)), c F1 ρ1 _ H1 p1 (drv_rev q r)⟩⟩
  · cases h
theorem si_seq (ha : SndE X a A) : SndI X tg a (iSeq A) := by
  intro F ρ env st its st' σ H R W E h c
  obtain ⟨x, st1, h1, h⟩ := mb_eq h
  unfold itsOf at h
  split at h
  · cases h
    refine wI_of (pi_list pe_w) (ha F ρ env st _ _ σ H _ W E h1 fun F1 ρ1 w1 H1 p1 r1 => ?_)
    rw [RelP] at r1
    obtain ⟨p, vs, rfl, q, r⟩ := r1
    exact ⟨p, rfl, ⟨vs, .inl (.inl (p1.wld.sub _ _ q))⟩, c F1 ρ1 _ H1 p1 (drv_val q r)⟩
  · cases h
    refine wI_of (pi_tup pe_w) (ha F ρ env st _ _ σ H _ W E h1 fun F1 ρ1 w1 H1 p1 r1 => ?_)
    rw [RelP] at r1
    obtain ⟨p, vs, rfl, q, r⟩ := r1
    exact ⟨p, rfl, ⟨vs, p1.wld.sub.sqT q⟩, c F1 ρ1 _ H1 p1 (drv_tup q r)⟩
  · cases h
    refine wI_of (pi_keysO pe_w) (ha F ρ env st _ _ σ H _ W E h1 fun F1 ρ1 w1 H1 p1 r1 => ?_)
    rw [RelP] at r1
    obtain ⟨a, ob, kws, vws, rfl, q, r2, r3, d⟩ := r1
    obtain ⟨hx, ⟨es, ep, hdt, he⟩, hs, _, _⟩ := d
    exact ⟨a, ob, kws, es, ep, rfl, p1.wld.sub _ _ q, hx, hs, hdt, esr_keys he, c F1 ρ1 _ H1 p1 (drv_keys q r2)⟩
  · split at h
    · rename_i l _ xs hl
      cases h
      refine wI_of (pi_list pe_w) (ha F ρ env st _ _ σ H _ W E h1 fun F1 ρ1 w1 H1 p1 r1 => ?_)
      rw [RelP] at r1
      obtain ⟨q, rfl⟩ := r1
      obtain ⟨_, vs, e, r⟩ := p1.wld.cell l _ hl
      exact ⟨_, rfl, ⟨vs, .inl (.inl e)⟩, c F1 ρ1 _ H1 p1 (drv_loc q)⟩
    · rename_i l _ ks vs tt hl
      cases h
      refine wI_of (pi_keysO pe_w) (ha F ρ env st _ _ σ H _ W E h1 fun F1 ρ1 w1 H1 p1 r1 => ?_)
      rw [RelP] at r1
      obtain ⟨q, rfl⟩ := r1
      obtain ⟨_, ob, kws, vws, e, r2, r3, d⟩ := p1.wld.cell l _ hl
      have d' := d
      obtain ⟨hx, ⟨es, ep, hdt, he⟩, hs, _, _⟩ := d'
      exact ⟨_, ob, kws, es, ep, rfl, e, hx, hs, hdt, esr_keys he, c F1 ρ1 _ H1 p1 (drv_keysL hl e r2)⟩
    · cases h
  · cases h
theorem si_rng1 {p : Pos} (hg : Gl X "range") (hm : X.mg "range" = none) (ha : SndE X a A) (hs : starEach [a] X.env = [(false, eval a X.env)]) : SndI X tg (.Call (.Name "range" p) [a] [] pos) (iRng1 A) := by
  intro F ρ env st its st' σ H R W E h c
  obtain ⟨x, st1, h1, h⟩ := mb_eq h
  refine wI_of (pi_range1 hg hm (pa_cons pe_w pa_nil hs) hs) ?_
  refine ha F ρ env st x st1 σ H _ W E h1 fun F1 ρ1 w1 H1 p1 r1 => ?_
  obtain ⟨n, st2, h2, h⟩ := mb_eq h
  obtain ⟨rfl, rfl⟩ := asI_eq h2
  split at h
  · rename_i hn
    have hn := okRng_iff.mp hn
    cases h
    cases int_ok r1
    refine ⟨n, rfl, hn.1, hn.2, c F1 ρ1 _ H1 p1 ?_⟩
    have := drv_rng (K := X.K) (F := F1) (ρ := ρ1) (st := st') (H := H1) (lo := 0) (hi := n)
    rw [Int.sub_zero] at this
    exact this
  · cases h
theorem si_rng2 {p : Pos} (hg : Gl X "range") (hm : X.mg "range" = none) (ha : SndE X a A) (hb : SndE X b B) (hs : starEach [a, b] X.env = [(false, eval a X.env), (false, eval b X.env)]) (hs2 : starEach [b] X.env = [(false, eval b X.env)]) : SndI X tg (.Call (.Name "range" p) [a, b] [] pos) (iRng2 A B) := by
  intro F ρ env st its st' σ H R W E h c
  obtain ⟨x, st1, h1, h⟩ := mb_eq h
  obtain ⟨y, st2, h2, h⟩ := mb_eq h
  refine wI_of (pi_range2 hg hm (pa_cons pe_w (pa_cons pe_w pa_nil hs2) (by rw [hs, hs2])) hs hs2) ?_
  refine ha F ρ env st x st1 σ H _ W E h1 fun F1 ρ1 w1 H1 p1 r1 => ?_
  refine hb F1 ρ1 env st1 y st2 σ H1 _ p1.wld (E.step p1) h2 fun F2 ρ2 w2 H2 p2 r2 => ?_
  obtain ⟨i, st3, h3, h⟩ := mb_eq h
  obtain ⟨rfl, rfl⟩ := asI_eq h3
  obtain ⟨j, st4, h4, h⟩ := mb_eq h
  obtain ⟨rfl, rfl⟩ := asI_eq h4
  split at h
  · rename_i hn
    rw [Bool.and_eq_true] at hn
    have h5 := okRng_iff.mp hn.1
    have h6 := okRng_iff.mp hn.2
    cases h
    cases int_ok r1
    cases int_ok r2
    exact ⟨_, _, rfl, ⟨h5.1, h5.2, h6.1, h6.2⟩, c F2 ρ2 _ H2 (p1.trans p2) drv_rng⟩
  · cases h

/-! ### targets -/
theorem lbs_set {n : Nat} {v : PV} : ∀ {xs : List PV}, lbs n xs = true → v.lb n = true → ∀ j, lbs n (xs.set j v) = true
  | [], h, _, _ => h
  | x :: r, h, hv, 0 => by
    rw [lbs, Bool.and_eq_true] at h
    rw [List.set_cons_zero, lbs, hv, h.2]; rfl
  | x :: r, h, hv, j + 1 => by
    rw [lbs, Bool.and_eq_true] at h
    rw [List.set_cons_succ, lbs, h.1, lbs_set h.2 hv j]; rfl
theorem Wld.st_lb {K : PySem.W.Frag} {F : Hp} {ρ : Nat → Addr} {st : Sto} {H : Hp} (W : Wld K F ρ st H) {l : Nat} {c : Cell} (h : st.cs l = some c) : c.lb st.nxt = true := st.wc l c h
theorem sg_name {i : Nat} {x : Str} (hN : X.N.Nodup) (hi : X.N[i]? = some x) (hx : Loc X.env.scope x) (hf : X.fn x = true ∨ X.env.scope.names.lookup x = some .local) : SndG X (.Name x pos) (gName i) [i] := by
  intro F ρ env st v w e' st' σ H Q W E r h c
  cases h
  exact wG_of (pg_name hN hi hx hf) (c F ρ _ H (Pst.refl W) (E.set r i) .set)
theorem sgs_nil : SndGs X [] (gList []) [] := by
  intro F ρ env st vs ws e' st' σ H Q W E r h c
  cases vs with
  | nil =>
    cases h
    cases r.inv0
    exact wGs_of pgs_nil ⟨rfl, c F ρ _ H (Pst.refl W) E .refl⟩
  | cons _ _ => cases h
theorem sgs_cons {es : List Expr} {G : DG} {Gs : List DG} {js ks : List Nat} (h1 : SndG X e G js) (h2 : SndGs X es (gList Gs) ks) (hs : (assignEach (e :: es) X.env).map (·.2) = assign e X.env :: (assignEach es X.env).map (·.2)) : SndGs X (e :: es) (gList (G :: Gs)) (js ++ ks) := by
  intro F ρ env st vs ws e' st' σ H Q W E r h c
  cases vs with
  | nil => cases h
  | cons v vs =>
    obtain ⟨e1, s1, h3, h⟩ := mb_eq h
    obtain ⟨w, ws, rfl, r1, r2⟩ := r.inv
    refine wGs_of (pgs_cons pg_w pgs_w hs) ⟨w, ws, rfl, h1 F ρ env st v w e1 s1 σ H _ W E r1 h3 fun F1 ρ1 σ1 H1 p1 E1 b1 => ?_⟩
    exact h2 F1 ρ1 e1 s1 vs ws e' st' σ1 H1 Q p1.wld E1 (r2.step p1) h fun F2 ρ2 σ2 H2 p2 E2 b2 => c F2 ρ2 σ2 H2 (p1.trans p2) E2 (b1.trans b2)
theorem gList_len : ∀ {Gs : List DG} {vs : List PV} {env : Env} {st : Sto} {r : Env × Sto}, gList Gs vs env st = some r → Gs.length = vs.length
  | [], [], _, _, _, _ => rfl
  | [], _ :: _, _, _, _, h => by cases h
  | _ :: _, [], _, _, _, h => by cases h
  | G :: Gs, v :: vs, env, st, r, h => by
    obtain ⟨e1, s1, _, h⟩ := mb_eq (b := r.1) (st := r.2) h
    rw [List.length_cons, List.length_cons, gList_len h]
theorem sg_tup {es : List Expr} {Gs : List DG} {k n : Nat} {js : List Nat} (hc : X.calm = true) (h : SndGs X es (gList Gs) js) (hn : (assignEach es X.env).length = n) (hst : (assignEach es X.env).findIdx? (·.1) = none) (hl : Gs.length = n) : SndG X (.Tuple es k pos) (gTup Gs) js := by
  intro F ρ env st v w e' st' σ H Q W E r h0 c
  unfold gTup at h0
  split at h0
  · rename_i xs
    obtain ⟨p, vs, rfl, q, r2⟩ := tup_ok W r
    refine wG_of (pg_tup hc pgs_w hn hst) ⟨p, vs, rfl, q, ?_, ?_⟩
    · rw [← r2.length, ← gList_len h0]; exact hl
    · exact h F ρ env st xs vs e' st' σ H Q W E r2 h0 c
  · cases h0
theorem sg_sub {o i : Expr} {O I : DE} (hu : X.A.units + 65 < cLine) (hasg : ∀ v, assign (.Subscript o i pos) X.env v = (do let ov ← holding [v] (eval o X.env); let iv ← holding [v, ov] (eval i X.env); standAt pos; holding [v, ov, iv] (setItem ov iv v); release [v, ov, iv] [])) (ho : SndE X o O) (hi : SndE X i I) : SndG X (.Subscript o i pos) (gSub O I) [] := by
  intro F ρ env st v w e' st' σ H Q W E r h c
  obtain ⟨x, st1, h1, h⟩ := mb_eq h
  obtain ⟨y, st2, h2, h⟩ := mb_eq h
  refine wG_of (pg_sub pe_w pe_w set_w hasg) ?_
  refine ho F ρ env st x st1 σ H _ W E h1 fun F1 ρ1 w1 H1 p1 r1 => ?_
  refine hi F1 ρ1 env st1 y st2 σ H1 _ p1.wld (E.step p1) h2 fun F2 ρ2 w2 H2 p2 r2 => ?_
  cases hs : setL x y v st2 with
  | none => rw [hs] at h; cases h
  | some s3 =>
    rw [hs] at h; cases h
    cases x with
    | loc l =>
      have hs : (match (generalizing := false) st2.cs l with
        | some (.lst xs) => match (generalizing := false) y with
          | .int i => match (generalizing := false) ixN xs.length i with
            | some j => if v.lb st2.nxt then some (st2.set l (.lst (xs.set j v))) else none
            | none => none
          | _ => none
        | some (.dct ks vs t) => if goodK ks y && v.lb st2.nxt && decide (ks.length < sizeLine) then some (st2.set l (.dct (dput ks vs y v).1 (dput ks vs y v).2 (t + 1))) else none
        | some (.dki ks vs) => match (generalizing := false) keyP y with
          | some i => if v.lb st2.nxt && okLen (ks.length + 1) then some (st2.set l (.dki (iput ks vs i v).1 (iput ks vs i v).2)) else none
          | none => none
        | none => none) = some st' := hs
      have r1 := r1.step p2
      rw [RelP] at r1
      obtain ⟨_, rfl⟩ := r1
      split at hs
      · rename_i xs hl
        split at hs
        · rename_i j hj
          split at hs
          · rename_i j' hj'
            split at hs
            · rename_i hb
              cases hs
              cases int_ok r2
              obtain ⟨_, vs, e, rc⟩ := p2.wld.cell l _ hl
              refine wSet_of set_list ⟨_, vs, _, j', rfl, rfl, e, by rw [← rc.length]; exact hj', ?_⟩
              have hw : lbs st2.nxt xs = true := p2.wld.st_lb hl
              have p3 := p2.wld.set hl tick_lst (c := .lst (xs.set j' v)) (o := .lst (vs.set j' w)) (lbs_set hw hb j') ⟨_, rfl, rc.set (r.step (p1.trans p2)) j'⟩
              exact c _ _ _ _ ((p1.trans p2).trans p3) (((E.step p1).step p2).step p3) .refl
            · cases hs
          · cases hs
        · cases hs
      · rename_i ks vs tt hl
        split at hs
        · rename_i hb
          cases hs
          simp only [Bool.and_eq_true, decide_eq_true_eq] at hb
          refine setD_ok hu p2.wld hl r2 (r.step (p1.trans p2)) hb.1.1 hb.1.2 hb.2 fun F3 ρ3 H3 p3 => ?_
          exact c _ _ _ _ ((p1.trans p2).trans p3) (((E.step p1).step p2).step p3) .refl
        · cases hs
      · rename_i ks vs hl
        split at hs
        · rename_i j hky
          split at hs
          · rename_i hb
            cases hs
            rw [Bool.and_eq_true] at hb
            refine setI_ok hu p2.wld hl r2 hky (r.step (p1.trans p2)) hb.1 (by have := okLen_iff.mp hb.2; omega) fun F3 ρ3 H3 p3 => ?_
            exact c _ _ _ _ ((p1.trans p2).trans p3) (((E.step p1).step p2).step p3) .refl
          · cases hs
        · cases hs
      · cases hs
    | _ => cases hs

/-! ### comprehensions -/
theorem Ct.ofPst {K : PySem.W.Frag} {F F1 : Hp} {ρ ρ1 : Nat → Addr} {st st1 st' : Sto} {H H1 : Hp} {v : PV} {Q : VK} (a : Pst K F ρ st H F1 ρ1 st1 H1) (c : Ct K F ρ st H v st' Q) : Ct K F1 ρ1 st1 H1 v st' Q := fun F' ρ' w H' p r => c F' ρ' w H' (a.trans p) r
/-- the list that a comprehension fills, beside the world -/
structure Bes (K : PySem.W.Frag) (F1 : Hp) (ρ1 : Nat → Addr) (st1 : Sto) (H1 : Hp) (D : Addr) (F : Hp) (ρ : Nat → Addr) (st : Sto) (H : Hp) (ys : List PV) (acc : List V) : Prop where
  p : Pst K F1 ρ1 st1 H1 F ρ st H
  h1 : H1 D = none
  at' : H D = some (.lst acc)
  nF : F D = none
  nL : ∀ l c, st.cs l = some c → ρ l ≠ D
  rel : RelPs K F ρ st.nxt ys acc
theorem Bes.step {K : PySem.W.Frag} {F1 : Hp} {ρ1 : Nat → Addr} {st1 : Sto} {H1 : Hp} {D : Addr} {F : Hp} {ρ : Nat → Addr} {st : Sto} {H : Hp} {ys : List PV} {acc : List V} {F' : Hp} {ρ' : Nat → Addr} {st' : Sto} {H' : Hp}
    (b : Bes K F1 ρ1 st1 H1 D F ρ st H ys acc) (q : Pst K F ρ st H F' ρ' st' H') : Bes K F1 ρ1 st1 H1 D F' ρ' st' H' ys acc := by
  refine ⟨b.p.trans q, b.h1, q.ext D _ b.at' b.nL, ?_, fun l c z e => ?_, b.rel.step q⟩
  · cases e : F' D with
    | none => rfl
    | some o =>
      rcases q.fz D o e with h | h | ⟨l, c, h1, h2⟩
      · rw [b.nF] at h; cases h
      · rw [b.at'] at h; cases h
      · exact absurd h2 (b.nL l c h1)
  · by_cases h : l < st.nxt
    · obtain ⟨c0, h0⟩ := q.live l c h z
      exact b.nL l c0 h0 (by rw [← q.rho l h]; exact e)
    · have := q.fresh l c (Nat.not_lt.mp h) z
      rw [e, b.at'] at this; cases this
theorem Bes.push {K : PySem.W.Frag} {F1 : Hp} {ρ1 : Nat → Addr} {st1 : Sto} {H1 : Hp} {D : Addr} {F : Hp} {ρ : Nat → Addr} {st : Sto} {H : Hp} {ys : List PV} {acc : List V} {y : PV} {w : V}
    (b : Bes K F1 ρ1 st1 H1 D F ρ st H ys acc) (r : RelP K F ρ st.nxt y w) : Bes K F1 ρ1 st1 H1 D F ρ st (upd H D (.lst (acc ++ [w]))) (ys ++ [y]) (acc ++ [w]) :=
  ⟨b.p.side b.h1 b.nF b.nL, b.h1, upd_same, b.nF, b.nL, b.rel.append (.cons r .nil)⟩
theorem Bes.wld {K : PySem.W.Frag} {F1 : Hp} {ρ1 : Nat → Addr} {st1 : Sto} {H1 : Hp} {D : Addr} {F : Hp} {ρ : Nat → Addr} {st : Sto} {H : Hp} {ys : List PV} {acc : List V} (b : Bes K F1 ρ1 st1 H1 D F ρ st H ys acc) : Wld K F ρ st H := b.p.wld
theorem Bes.start {K : PySem.W.Frag} {F1 : Hp} {ρ1 : Nat → Addr} {st1 : Sto} {H1 : Hp} {D : Addr} (W : Wld K F1 ρ1 st1 H1) (h : H1 D = none) : Bes K F1 ρ1 st1 H1 D F1 ρ1 st1 (upd H1 D (.lst [])) [] [] := by
  have nF : F1 D = none := by
    cases e : F1 D with
    | none => rfl
    | some u => have := W.sub D u e; rw [h] at this; cases this
  have nL : ∀ l c, st1.cs l = some c → ρ1 l ≠ D := fun l c z => W.ne z h
  exact ⟨(Pst.refl W).side h nF nL, h, upd_same, nF, nL, .nil⟩
theorem Bes.fin {K : PySem.W.Frag} {F1 : Hp} {ρ1 : Nat → Addr} {st1 : Sto} {H1 : Hp} {D : Addr} {F : Hp} {ρ : Nat → Addr} {st st' : Sto} {H : Hp} {ys : List PV} {acc : List V} {m : Bool} {v : PV} {Q : VK}
    (b : Bes K F1 ρ1 st1 H1 D F ρ st H ys acc) (h : mkL m ys st = some (v, st')) (c : Ct K F1 ρ1 st1 H1 v st' Q) : Q (.ref D) H := by
  unfold mkL at h
  split at h
  · split at h
    · split at h
      · rename_i hl
        cases h
        refine c _ _ _ _ (b.p.keepL b.h1 b.nF b.nL b.at' (c := .lst ys) hl ⟨acc, rfl, b.rel⟩) ?_
        rw [RelP]
        exact ⟨by rw [Sto.alloc_nxt]; omega, by rw [if_pos rfl]⟩
      · cases h
    · cases h
      have p := b.p.keepV b.h1 b.nF b.nL b.at'
      refine c _ _ _ _ p ?_
      rw [RelP]
      refine ⟨D, acc, rfl, upd_same, b.rel.mono (fun x u z => ?_) (fun _ _ => rfl) (Nat.le_refl _)⟩
      rw [upd_ne (ne_of_none z b.nF)]; exact z
  · cases h
theorem mkL_len {m : Bool} {ys : List PV} {st : Sto} {r : PV × Sto} (h : mkL m ys st = some r) : ys.length ≤ sizeLine := by
  unfold mkL at h
  split at h
  · assumption
  · cases h
def SndTs (X : Cx) (ifs : List Expr) (D : DT) : Prop := ∃ t, PTs X ifs t ∧ ∀ F ρ env st b st' σ H Q, Wld X.K F ρ st H → ERel X.K F ρ st.nxt env σ → D env st = some (b, st') →
  (∀ F' ρ' H', Pst X.K F ρ st H F' ρ' st' H' → Q b H') → t σ H Q
abbrev Blk (X : Cx) (scope : Scope) (P : Cx → Prop) : Prop := ∀ (s : Shared) (H : Hp) (C : Addr) (cl : List (Str × Addr)) (fp : List Addr), P (X.blk s H scope (compEnvC scope cl C X.env) fp)
/-- the readings of a block's parts, whatever the block -/
def bE (X : Cx) (scope : Scope) (e : Expr) : TE := fun σ H Q => Blk X scope fun Y => wE Y e σ H Q
def bT (X : Cx) (scope : Scope) (e : Expr) : TT := fun σ H Q => Blk X scope fun Y => wT Y e σ H Q
def bG (X : Cx) (scope : Scope) (e : Expr) : TG := fun v σ H Q => Blk X scope fun Y => wG Y e v σ H Q
theorem pe_b {scope : Scope} {e : Expr} : Blk X scope fun Y => PE Y e (bE X scope e) := fun s H C cl fp => ⟨fun pins s' σ H' Q I h => h s H C cl fp pins s' I⟩
theorem pt_b {scope : Scope} {e : Expr} : Blk X scope fun Y => PT Y e (bT X scope e) := fun s H C cl fp => ⟨fun pins s' σ H' Q I h => h s H C cl fp pins s' I⟩
theorem pg_b {scope : Scope} {e : Expr} : Blk X scope fun Y => PG Y e (bG X scope e) := fun s H C cl fp => ⟨fun pins s' σ H' v u Q I r h => h s H C cl fp pins s' u I r⟩
/-- the tests of a comprehension: none or one -/
inductive Ifs (X : Cx) (scope : Scope) : List Expr → DT → Prop
  | nil : Ifs X scope [] tYes
  | one {c : Expr} {D : DT} : (Blk X scope fun Y => SndT Y c D) → Ifs X scope [c] D
def ifsT (X : Cx) (scope : Scope) : List Expr → TT
  | [c] => bT X scope c
  | _ => L2.tYes
theorem Ifs.pts {scope : Scope} {ifs : List Expr} {D : DT} (h : Ifs X scope ifs D) : Blk X scope fun Y => PTs Y ifs (ifsT X scope ifs) := fun s H C cl fp => by
  cases h with
  | nil => exact pts_nil
  | one h => exact pts_one (pt_b s H C cl fp)
theorem Ifs.run {scope : Scope} {ifs : List Expr} {D : DT} (h : Ifs X scope ifs D) {F ρ env st b st' σ H Q} (W : Wld X.K F ρ st H) (E : ERel X.K F ρ st.nxt env σ) (h0 : D env st = some (b, st'))
    (c : ∀ F' ρ' H', Pst X.K F ρ st H F' ρ' st' H' → Q b H') : ifsT X scope ifs σ H Q := by
  cases h with
  | nil => cases h0; exact c F ρ H (Pst.refl W)
  | one h => exact fun s H' C cl fp => h s H' C cl fp F ρ env st b st' σ H Q W E h0 c
theorem lc_run {elt it : Expr} {ifs : List Expr} {scope : Scope} {vs : List Nat} {I : DI} {G : DG} {T : DT} {A : DE} {m : Bool} (hI : SndI X tg it I) {js : List Nat} (hG : Blk X scope fun Y => SndG Y tg G js) (hjs : ∀ j ∈ js, j ∈ vs) (hT : Ifs X scope ifs T) (hA : Blk X scope fun Y => SndE Y elt A)
    {F : Hp} {ρ : Nat → Addr} {env : Env} {st : Sto} {v : PV} {st' : Sto} {σ : L2.St} {H : Hp} {Q : VK} (W : Wld X.K F ρ st H) (E : ERel X.K F ρ st.nxt env σ) (h : dLc m vs I G T A env st = some (v, st')) (c : Ct X.K F ρ st H v st' Q) :
    tLc (wI X tg it) (bG X scope tg) (ifsT X scope ifs) (bE X scope elt) vs σ H Q := by
  obtain ⟨its, st1, h1, h⟩ := mb_eq h
  obtain ⟨ys, st2, h2, h⟩ := mb_eq h
  refine hI F ρ env st its st1 σ H _ W E h1 fun F1 ρ1 J H1 p1 drv => ?_
  intro D hD
  have c1 := Ct.ofPst p1 c
  have E1 := (E.step p1).wipe vs
  have hz := mkL_len h
  have hww := wipe_wipe σ vs
  refine ⟨fun i mm H' => ∃ F2 ρ2 s2 done acc rest, Bes X.K F1 ρ1 st1 H1 D F2 ρ2 s2 H' done acc ∧ i + mm = its.items.length ∧ done.length ≤ i ∧ lcGo its G T A (wipeE env vs) (its.items.drop i) s2 = some (rest, st2) ∧ ys = done ++ rest, ⟨its.items.length, F1, ρ1, st1, [], [], ys, .start p1.wld hD, by omega, Nat.le_refl _, h2, rfl⟩, fun i mm H' hW => ?_⟩
  obtain ⟨F2, ρ2, s2, done, acc, rest, b, em, hdl, hg, rfl⟩ := hW
  have dr := fun hok => drv F2 ρ2 s2 H' i b.p hok
  by_cases hi : i < its.items.length
  · rw [List.drop_eq_getElem_cons hi, lcGo] at hg
    split at hg
    · rename_i hok
      obtain ⟨dgo, dyld⟩ := (dr hok).1 its.items[i] (List.getElem?_eq_getElem hi)
      obtain ⟨e1, s3, hg1, hg⟩ := mb_eq hg
      obtain ⟨k, s4, hg2, hg⟩ := mb_eq hg
      refine .inr ⟨dgo, fun H'' => ∃ F2 ρ2 s2 done' acc rest', Bes X.K F1 ρ1 st1 H1 D F2 ρ2 s2 H'' done' acc ∧ done'.length ≤ i + 1 ∧ lcGo its G T A (wipeE env vs) (its.items.drop (i + 1)) s2 = some (rest', st2) ∧ done ++ rest = done' ++ rest',
        fun H'' hN => ?_, fun w H3 hy => ?_⟩
      · obtain ⟨F5, ρ5, s5, d5, a5, r5, b5, l5, g5, y5⟩ := hN
        exact ⟨mm - 1, by omega, F5, ρ5, s5, d5, a5, r5, b5, by omega, l5, g5, y5⟩
      · obtain ⟨F3, p3, r3⟩ := dyld w H3 hy
        have b3 := b.step p3
        have E3 : ERel X.K F3 ρ2 s2.nxt (wipeE env vs) (L2.wipe σ vs) := E1.step b3.p
        intro s0 H0 C0 cl0 fp0
        refine hG s0 H0 C0 cl0 fp0 F3 ρ2 (wipeE env vs) s2 _ w e1 s3 (L2.wipe σ vs) H3 _ b3.wld E3 r3 hg1 fun F4 ρ4 σ4 H4 p4 E4 sb => ⟨(sb.wipe hjs).trans hww, ?_⟩
        · have b4 := b3.step p4
          refine hT.run b4.wld E4 hg2 fun F5 ρ5 H5 p5 => ?_
          have b5 := b4.step p5
          have E5 := E4.step p5
          cases k with
          | false =>
            exact ⟨F5, ρ5, s4, done, acc, rest, b5, by omega, hg, rfl⟩
          | true =>
            obtain ⟨y, s6, hg3, hg⟩ := mb_eq hg
            obtain ⟨zs, s7, hg4, hg⟩ := mb_eq hg
            cases hg
            show bE X scope elt σ4 H5 _
            intro s0 H0 C0 cl0 fp0
            refine hA s0 H0 C0 cl0 fp0 F5 ρ5 e1 s4 y s6 σ4 H5 _ b5.wld E5 hg3 fun F6 ρ6 w6 H6 p6 r6 => ?_
            have b6 := b5.step p6
            refine ⟨acc, b6.at', ?_, F6, ρ6, s6, done ++ [y], acc ++ [w6], zs, b6.push r6, by rw [List.length_append, List.length_singleton]; omega, hg4, by rw [List.append_assoc]; rfl⟩
            have hb := b6.rel.length
            rw [List.length_append, List.length_cons] at hz
            omega
    · cases hg
  · rw [List.drop_eq_nil_of_le (Nat.not_lt.mp hi), lcGo] at hg
    split at hg
    · rename_i hok
      cases hg
      rw [List.append_nil] at h
      exact .inl ⟨(dr hok).2 (Nat.not_lt.mp hi), b.fin h c1⟩
    · cases hg
end
end DL

/-! DL5: statements, defs. -/
namespace DL
open PySem PySem.Spec PyProof.Rows L2

section
variable {X : Cx}
theorem snd_lc {elt it tg : Expr} {ifs : List Expr} {scope : Scope} {pos : Pos} {own : List (Str × Nat)} {I : DI} {G : DG} {T : DT} {A : DE} {m : Bool} {js : List Nat} (hc : X.calm = true) (hN : X.N.Nodup) (ok : BlkOk X.N X.env.scope scope own) (hs : ∀ x, foldedSetIterable it X.env x = pure x)
    (hI : SndI X tg it I) (hG : Blk X scope fun Y => SndG Y tg G js) (hjs : ∀ j ∈ js, j ∈ own.map (·.2)) (hT : Ifs X scope ifs T) (hA : Blk X scope fun Y => SndE Y elt A) :
    SndE X (.ListComp elt [⟨tg, it, ifs, 0⟩] scope pos) (dLc m (own.map (·.2)) I G T A) := by
  intro F ρ env st v st' σ H Q W E h c
  exact wE_of (pe_lc hc hN pi_w ok pg_b hT.pts pe_b hs) (lc_run hI hG hjs hT hA W E h c)

/-! ### statements -/
def EndsOk (K : PySem.W.Frag) (F : Hp) (ρ : Nat → Addr) (st : Sto) (H : Hp) (fl : Fl) (st' : Sto) (E : Ends) : Prop := match fl with
  | .nx e => ∀ F' ρ' σ' H', Pst K F ρ st H F' ρ' st' H' → ERel K F' ρ' st'.nxt e σ' → E.nx σ' H'
  | .bk e => ∀ F' ρ' σ' H', Pst K F ρ st H F' ρ' st' H' → ERel K F' ρ' st'.nxt e σ' → E.bk σ' H'
  | .ct e => ∀ F' ρ' σ' H', Pst K F ρ st H F' ρ' st' H' → ERel K F' ρ' st'.nxt e σ' → E.ct σ' H'
  | .rt v => Ct K F ρ st H v st' E.rt
theorem EndsOk.of {K : PySem.W.Frag} {F F1 : Hp} {ρ ρ1 : Nat → Addr} {st st1 st' : Sto} {H H1 : Hp} {fl : Fl} {E : Ends} (p : Pst K F ρ st H F1 ρ1 st1 H1) (k : EndsOk K F ρ st H fl st' E) : EndsOk K F1 ρ1 st1 H1 fl st' E := by
  cases fl with
  | nx e => exact fun F' ρ' σ' H' q r => k F' ρ' σ' H' (p.trans q) r
  | bk e => exact fun F' ρ' σ' H' q r => k F' ρ' σ' H' (p.trans q) r
  | ct e => exact fun F' ρ' σ' H' q r => k F' ρ' σ' H' (p.trans q) r
  | rt v => exact fun F' ρ' σ' H' q r => k F' ρ' σ' H' (p.trans q) r
def SndS (X : Cx) (s : Stmt) (D : DS) : Prop := ∀ F ρ env st fl st' σ H (E : Ends), Wld X.K F ρ st H → ERel X.K F ρ st.nxt env σ → D env st = some (fl, st') → EndsOk X.K F ρ st H fl st' E → wS X s E σ H
def SndSs (X : Cx) (s : List Stmt) (D : DS) : Prop := ∀ F ρ env st fl st' σ H (E : Ends), Wld X.K F ρ st H → ERel X.K F ρ st.nxt env σ → D env st = some (fl, st') → EndsOk X.K F ρ st H fl st' E → wSs X s E σ H
variable {pos : Pos} {a b c e tg : Expr} {A B C : DE} {s : Stmt} {ss us : List Stmt} {D D' : DS}
theorem sss_nil : SndSs X [] sPass := fun F ρ env st fl st' σ H E W R h k => by
  cases h
  exact wSs_of pss_nil (k F ρ σ H (Pst.refl W) R)
theorem sss_cons (h1 : SndS X s D) (h2 : SndSs X ss D') : SndSs X (s :: ss) (sSeq D D') := fun F ρ env st fl st' σ H E W R h k => by
  obtain ⟨f, st1, h3, h⟩ := mb_eq h
  refine wSs_of (pss_cons ps_w pss_w) ?_
  refine h1 F ρ env st f st1 σ H { E with nx := fun σ' H' => wSs X ss E σ' H' } W R h3 ?_
  cases f with
  | nx e => exact fun F1 ρ1 σ1 H1 p1 R1 => h2 F1 ρ1 e st1 fl st' σ1 H1 E p1.wld R1 h (EndsOk.of p1 k)
  | bk e => cases h; exact k
  | ct e => cases h; exact k
  | rt v => cases h; exact k
/-- from here on the name's place is a value -/
def sFrz (i : Nat) : DS := fun env st => match env[i]? with
  | some (some v) => mb (frzL v st) fun x st1 => some (.nx (env.set i (some x)), st1)
  | _ => none
theorem ERel.frz {K : PySem.W.Frag} {F : Hp} {ρ : Nat → Addr} {n i : Nat} {env : Env} {σ : L2.St} {v : PV} {w : V} (h : ERel K F ρ n env σ) (hw : σ[i]? = some (some w)) (r : RelP K F ρ n v w) : ERel K F ρ n (env.set i (some v)) σ := by
  have e := h.set r i
  have e2 : σ.set i (some w) = σ := by
    apply List.ext_getElem?
    intro j
    by_cases q : i = j
    · subst q
      rw [List.getElem?_set_self (List.getElem?_eq_some_iff.mp hw).1, hw]
    · rw [List.getElem?_set_ne q]
  rw [e2] at e
  exact e
theorem sss_frz {i : Nat} (h : SndSs X ss D) : SndSs X ss (sSeq (sFrz i) D) := fun F ρ env st fl st' σ H E W R hD k => by
  obtain ⟨f, st1, h3, h4⟩ := mb_eq hD
  unfold sFrz at h3
  split at h3
  · rename_i v hv
    obtain ⟨x, st2, h5, h3⟩ := mb_eq h3
    cases h3
    obtain ⟨w, hw, r⟩ := R.2 i _ hv
    unfold frzL at h5
    split at h5
    · rename_i l
      split at h5
      · rename_i cc hl
        cases h5
        obtain ⟨F', P, r'⟩ := W.freeze hl
        rw [RelP] at r
        obtain ⟨_, rfl⟩ := r
        exact h F' ρ (env.set i (some cc.val)) _ fl st' σ H E P.wld ((R.step P).frz hw r') h4 (EndsOk.of P k)
      · cases h5
    · cases h5
  · cases h3
theorem sss_one (h1 : SndS X s D) : SndSs X [s] D := fun F ρ env st fl st' σ H E W R h k => wSs_of (pss_one ps_w) (h1 F ρ env st fl st' σ H E W R h k)
theorem ss_pass : SndS X (.Pass pos) sPass := fun F ρ env st fl st' σ H E W R h k => by
  cases h
  exact wS_of ps_pass (k F ρ σ H (Pst.refl W) R)
theorem ss_doc {x : Str} {j : Nat} {pos' : Pos} : SndS X (.Expr (.Constant (.str x) j pos) pos') sPass := fun F ρ env st fl st' σ H E W R h k => by
  cases h
  exact wS_of ps_doc (k F ρ σ H (Pst.refl W) R)
theorem ss_break : SndS X (.Break pos) sBreak := fun F ρ env st fl st' σ H E W R h k => by
  cases h
  exact wS_of ps_break (k F ρ σ H (Pst.refl W) R)
theorem ss_cont : SndS X (.Continue pos) sCont := fun F ρ env st fl st' σ H E W R h k => by
  cases h
  exact wS_of ps_continue (k F ρ σ H (Pst.refl W) R)
theorem ss_expr (ha : SndE X a A) (hs : swapsWith a none pos.line X.env = pure false) : SndS X (.Expr a pos) (sExpr A) := fun F ρ env st fl st' σ H E W R h k => by
  obtain ⟨x, st1, h1, h⟩ := mb_eq h
  cases h
  refine wS_of (ps_expr pe_w hs) ?_
  exact ha F ρ env st x st' σ H _ W R h1 fun F1 ρ1 w1 H1 p1 r1 => k F1 ρ1 σ H1 p1 (R.step p1)
theorem ss_ret (ha : SndE X a A) : SndS X (.Return (some a) pos) (sRet A) := fun F ρ env st fl st' σ H E W R h k => by
  obtain ⟨x, st1, h1, h⟩ := mb_eq h
  cases h
  refine wS_of (ps_ret pe_w) ?_
  exact ha F ρ env st x st' σ H _ W R h1 k
theorem ss_retN : SndS X (.Return none pos) sRetN := fun F ρ env st fl st' σ H E W R h k => by
  cases h
  exact wS_of ps_retN (k F ρ .non H (Pst.refl W) rel_non)
theorem ss_asg {G : DG} {js : List Nat} (hae : (assignEach [tg] X.env).map (·.2) = [assign tg X.env]) (hs : swapsWithSole [tg] a pos.line X.env = pure false) (hw : swappedStores [tg] a X.env = pure none) (ha : SndE X a A) (hg : SndG X tg G js) : SndS X (.Assign [tg] a pos) (sAsg A G) := fun F ρ env st fl st' σ H E W R h k => by
  obtain ⟨x, st1, h1, h⟩ := mb_eq h
  obtain ⟨e1, st2, h2, h⟩ := mb_eq h
  cases h
  refine wS_of (ps_asg pe_w pg_w hs hw (h1 := hae)) ?_
  refine ha F ρ env st x st1 σ H _ W R h1 fun F1 ρ1 w1 H1 p1 r1 => ?_
  exact hg F1 ρ1 env st1 x w1 e1 st' σ H1 E.nx p1.wld (R.step p1) r1 h2 fun F2 ρ2 σ2 H2 p2 R2 _ => k F2 ρ2 σ2 H2 (p1.trans p2) R2
theorem ss_setLc {i : Nat} {y : Str} {py : Pos} {elt it : Expr} {ifs : List Expr} {scope : Scope} {spos : Pos} {own : List (Str × Nat)} {I : DI} {G : DG} {T : DT} {A : DE} {m : Bool} {js : List Nat} (hc : X.calm = true) (hN : X.N.Nodup) (hy : X.N[i]? = some y) (hyl : X.env.scope.names.lookup y = some .local)
    (hsw : swapsWith (.ListComp elt [⟨tg, it, ifs, 0⟩] scope pos) (some (.Name y py)) spos.line X.env = pure true) (ok : BlkOk X.N X.env.scope scope own) (hs : ∀ x, foldedSetIterable it X.env x = pure x)
    (hI : SndI X tg it I) (hG : Blk X scope fun Y => SndG Y tg G js) (hjs : ∀ j ∈ js, j ∈ own.map (·.2)) (hT : Ifs X scope ifs T) (hA : Blk X scope fun Y => SndE Y elt A) :
    SndS X (.Assign [.Name y py] (.ListComp elt [⟨tg, it, ifs, 0⟩] scope pos) spos) (sAsg (dLc m (own.map (·.2)) I G T A) (gName i)) := fun F ρ env st fl st' σ H E W R h k => by
  obtain ⟨x, st1, h1, h⟩ := mb_eq h
  cases h
  refine wS_of (ps_setLc hc hN hy hyl hsw pi_w ok pg_b hT.pts pe_b hs) ?_
  refine lc_run hI hG hjs hT hA W R h1 fun F1 ρ1 w1 H1 p1 r1 => ?_
  exact k F1 ρ1 _ H1 p1 ((R.step p1).set r1 i)
theorem ss_aug {i : Nat} {x : Str} {op : Operator} {f : PV → PV → M PV} {pos' : Pos} (hN : X.N.Nodup) (hi : X.N[i]? = some x) (hx : Loc X.env.scope x) (hf : X.fn x = true ∨ X.env.scope.names.lookup x = some .local) (ho : SndO X (inplaceOp op) f) (ha : SndE X a A) : SndS X (.AugAssign (.Name x pos') op a pos) (sAug f i A) := fun F ρ env st fl st' σ H E W R h k => by
  unfold sAug at h
  split at h
  · rename_i x hx'
    obtain ⟨y, st1, h1, h⟩ := mb_eq h
    obtain ⟨z, st2, h2, h⟩ := mb_eq h
    cases h
    obtain ⟨w, hw, r⟩ := R.2 i _ hx'
    have hop : PIp X op (wR X (inplaceOp op)) := fun pins s σ H x y v u Q I r1 r2 q => q pins s σ v u I r1 r2
    refine wS_of (ps_aug hN hi hx pe_w hop hf) ⟨w, hw, ?_⟩
    refine ha F ρ env st y st1 σ H _ W R h1 fun F1 ρ1 w1 H1 p1 r1 => ?_
    exact ho F1 ρ1 st1 x y w w1 z st' H1 _ p1.wld (r.step p1) r1 h2 fun F2 ρ2 w2 H2 p2 r2 => k F2 ρ2 _ H2 (p1.trans p2) (((R.step p1).step p2).set r2 i)
  · cases h
theorem ss_if {t : Expr} {T : DT} (ht : SndT X t T) (h1 : SndSs X ss D) (h2 : SndSs X us D') : SndS X (.If t ss us pos) (sIf T D D') := fun F ρ env st fl st' σ H E W R h k => by
  obtain ⟨x, st1, h3, h⟩ := mb_eq h
  refine wS_of (ps_if pt_w pss_w pss_w) (ht F ρ env st x st1 σ H _ W R h3 fun F1 ρ1 H1 p1 => ?_)
  cases x with
  | true => exact h1 F1 ρ1 env st1 fl st' σ H1 E p1.wld (R.step p1) h (EndsOk.of p1 k)
  | false => exact h2 F1 ρ1 env st1 fl st' σ H1 E p1.wld (R.step p1) h (EndsOk.of p1 k)
theorem ss_for {it : Expr} {I : DI} {G : DG} {js : List Nat} (hx : X.xe = fun _ _ => False) (hc : X.calm = true) (hI : SndI X tg it I) (hG : SndG X tg G js) (hD : SndSs X ss D) (hs : ∀ x, foldedSetIterable it X.env x = pure x) : SndS X (.For tg it ss [] pos) (sFor I G D) := fun F ρ env st fl st' σ H E W R h k => by
  obtain ⟨its, st1, h1, h⟩ := mb_eq h
  refine wS_of (ps_for (by rw [hx]; exact PassesOwn.never) hc pi_w pg_w pss_w hs) ?_
  refine hI F ρ env st its st1 σ H _ W R h1 fun F1 ρ1 J H1 p1 drv => ?_
  refine ⟨fun i mm σ' H' => ∃ F2 ρ2 e2 s2, Pst X.K F1 ρ1 st1 H1 F2 ρ2 s2 H' ∧ ERel X.K F2 ρ2 s2.nxt e2 σ' ∧ i + mm = its.items.length ∧ forGo its G D (its.items.drop i) e2 s2 = some (fl, st'), ⟨its.items.length, F1, ρ1, env, st1, Pst.refl p1.wld, R.step p1, by omega, h⟩, fun i mm σ' H' hW => ?_⟩
  obtain ⟨F2, ρ2, e2, s2, p2, R2, em, hg⟩ := hW
  have dr := fun hok => drv F2 ρ2 s2 H' i p2 hok
  by_cases hi : i < its.items.length
  · rw [List.drop_eq_getElem_cons hi, forGo] at hg
    split at hg
    · rename_i hok
      obtain ⟨dgo, dyld⟩ := (dr hok).1 its.items[i] (List.getElem?_eq_getElem hi)
      obtain ⟨e3, s3, hg1, hg⟩ := mb_eq hg
      obtain ⟨f, s4, hg2, hg⟩ := mb_eq hg
      refine .inr ⟨dgo, fun σ'' H'' => ∃ F2 ρ2 e2 s2, Pst X.K F1 ρ1 st1 H1 F2 ρ2 s2 H'' ∧ ERel X.K F2 ρ2 s2.nxt e2 σ'' ∧ forGo its G D (its.items.drop (i + 1)) e2 s2 = some (fl, st'), fun σ'' H'' hN => ?_, fun w H3 hy => ?_⟩
      · obtain ⟨F5, ρ5, e5, s5, p5, R5, g5⟩ := hN
        exact ⟨mm - 1, by omega, F5, ρ5, e5, s5, p5, R5, by omega, g5⟩
      · obtain ⟨F3, p3, r3⟩ := dyld w H3 hy
        refine hG F3 ρ2 e2 s2 _ w e3 s3 σ' H3 _ p3.wld (R2.step p3) r3 hg1 fun F4 ρ4 σ4 H4 p4 R4 _ => ?_
        have p5 := (p2.trans p3).trans p4
        refine hD F4 ρ4 e3 s3 f s4 σ4 H4 _ p4.wld R4 hg2 ?_
        cases f with
        | nx e => exact fun F6 ρ6 σ6 H6 p6 R6 => ⟨F6, ρ6, e, s4, p5.trans p6, R6, hg⟩
        | ct e => exact fun F6 ρ6 σ6 H6 p6 R6 => ⟨F6, ρ6, e, s4, p5.trans p6, R6, hg⟩
        | bk e => cases hg; exact fun F6 ρ6 σ6 H6 p6 R6 => k F6 ρ6 σ6 H6 ((p1.trans p5).trans p6) R6
        | rt v => cases hg; exact fun F6 ρ6 σ6 H6 p6 R6 => k F6 ρ6 σ6 H6 ((p1.trans p5).trans p6) R6
    · cases hg
  · rw [List.drop_eq_nil_of_le (Nat.not_lt.mp hi), forGo] at hg
    split at hg
    · rename_i hok
      cases hg
      exact .inl ⟨(dr hok).2 (Nat.not_lt.mp hi), k F2 ρ2 σ' H' (p1.trans p2) R2⟩
    · cases hg
theorem ss_while {t : Expr} {T : DT} (hx : X.xe = fun _ _ => False) (ht : SndT X t T) (hD : SndSs X ss D) : SndS X (.While t ss [] pos) (sWhile T D) := fun F ρ env st fl st' σ H E W R h k => by
  refine wS_of (ps_while (by rw [hx]; exact PassesOwn.never) pt_w pss_w) ?_
  have h : whGo T D 100000 env st = some (fl, st') := h
  refine ⟨fun mm σ' H' => ∃ F2 ρ2 e2 s2, Pst X.K F ρ st H F2 ρ2 s2 H' ∧ ERel X.K F2 ρ2 s2.nxt e2 σ' ∧ whGo T D mm e2 s2 = some (fl, st'), ⟨100000, F, ρ, env, st, Pst.refl W, R, h⟩, fun mm σ' H' hW => ?_⟩
  obtain ⟨F2, ρ2, e2, s2, p2, R2, hg⟩ := hW
  cases mm with
  | zero => cases hg
  | succ mm =>
    rw [whGo] at hg
    obtain ⟨x, s3, hg1, hg⟩ := mb_eq hg
    refine ht F2 ρ2 e2 s2 x s3 σ' H' _ p2.wld R2 hg1 fun F3 ρ3 H3 p3 => ?_
    have p4 := p2.trans p3
    cases x with
    | false => cases hg; exact k F3 ρ3 σ' H3 p4 (R2.step p3)
    | true =>
      obtain ⟨f, s4, hg2, hg⟩ := mb_eq hg
      refine ⟨fun σ'' H'' => ∃ F2 ρ2 e2 s2, Pst X.K F ρ st H F2 ρ2 s2 H'' ∧ ERel X.K F2 ρ2 s2.nxt e2 σ'' ∧ whGo T D mm e2 s2 = some (fl, st'), fun σ'' H'' hN => ⟨mm, Nat.lt_succ_self _, hN⟩, ?_⟩
      refine hD F3 ρ3 e2 s3 f s4 σ' H3 _ p3.wld (R2.step p3) hg2 ?_
      cases f with
      | nx e => exact fun F6 ρ6 σ6 H6 p6 R6 => ⟨F6, ρ6, e, s4, p4.trans p6, R6, hg⟩
      | ct e => exact fun F6 ρ6 σ6 H6 p6 R6 => ⟨F6, ρ6, e, s4, p4.trans p6, R6, hg⟩
      | bk e => cases hg; exact fun F6 ρ6 σ6 H6 p6 R6 => k F6 ρ6 σ6 H6 (p4.trans p6) R6
      | rt v => cases hg; exact fun F6 ρ6 σ6 H6 p6 R6 => k F6 ρ6 σ6 H6 (p4.trans p6) R6
end

/-! ### defs -/
theorem fin_loc_ok {K : PySem.W.Frag} {F F1 : Hp} {ρ ρ1 : Nat → Addr} {st st1 : Sto} {H H1 : Hp} {l : Nat} {c : Cell} (p : Pst K F ρ st H F1 ρ1 st1 H1) (q : st.nxt ≤ l) (hc : st1.cs l = some c) (hlb : c.lb st.nxt = true) :
    ∃ F2 ρ2, Pst K F ρ st H F2 ρ2 ((st1.restr st.nxt).alloc c) H1 ∧ RelP K F2 ρ2 ((st1.restr st.nxt).alloc c).nxt (.loc st.nxt) (.ref (ρ1 l)) := by
    obtain ⟨hF, hr⟩ := p.wld.cell l c hc
    obtain ⟨o, ho⟩ := hr.some'
    rw [ho] at hr
    have e : (st1.kill l).restr st.nxt = st1.restr st.nxt := Sto.restr_kill_ge q
    obtain ⟨F2, s, p2, _, g⟩ := (p.kill l).drop rfl
    rw [e] at p2
    have nF : F2 (ρ1 l) = none := by
      cases z : F2 (ρ1 l) with
      | none => rfl
      | some u =>
        rcases g _ _ z with z | ⟨j, d, h1, h2, h3⟩
        · rw [hF] at z; cases z
        · by_cases hj : j = l
          · subst hj; rw [Sto.kill_get] at h2; cases h2
          · rw [Sto.kill_ne hj] at h2
            exact absurd (p.wld.inj j l d c h2 hc h3) hj
    have p3 := p2.keepL (D := ρ1 l) (o := o) (c := c) (p.fresh l c q hc) nF (fun j d z e => by
      obtain ⟨z1, z2, z3⟩ := Sto.restr_get z
      have := p.wld.inj j l d c z1 hc e
      omega) ho hlb (CRel.low (fun _ _ => rfl) hlb (CRel.mono s (fun _ _ => rfl) (Nat.le_refl _) hr))
    refine ⟨F2, _, p3, ?_⟩
    rw [RelP]
    exact ⟨by rw [Sto.alloc_nxt, Sto.restr_nxt]; omega, by rw [Sto.restr_nxt, if_pos rfl]⟩
theorem fin_ok {K : PySem.W.Frag} {F F1 : Hp} {ρ ρ1 : Nat → Addr} {st st1 st2 : Sto} {H H1 : Hp} {v v' : PV} {w : V} (p : Pst K F ρ st H F1 ρ1 st1 H1) (r : RelP K F1 ρ1 st1.nxt v w) (h : fin st.nxt v st1 = some (v', st2)) :
    ∃ F2 ρ2, Pst K F ρ st H F2 ρ2 st2 H1 ∧ RelP K F2 ρ2 st2.nxt v' w := by
  have go : (v.res st.nxt st1.cs).map (fun v' => (v', st1.restr st.nxt)) = some (v', st2) → ∃ F2 ρ2, Pst K F ρ st H F2 ρ2 st2 H1 ∧ RelP K F2 ρ2 st2.nxt v' w := fun h => by
    obtain ⟨F2, p2, r2⟩ := settle_ok p r h
    exact ⟨F2, ρ1, p2, r2⟩
  unfold fin at h
  split at h
  · rename_i l
    rw [RelP] at r
    obtain ⟨r1, rfl⟩ := r
    split at h
    · rename_i q
      cases h
      obtain ⟨F2, s, p2, _⟩ := p.drop rfl
      refine ⟨F2, ρ1, p2, ?_⟩
      rw [RelP]
      exact ⟨q, rfl⟩
    · rename_i q
      have q := Nat.not_lt.mp q
      cases hc : st1.cs l with
      | none => rw [hc] at h; cases h
      | some c =>
       rw [hc] at h
       have h : (if c.lb st.nxt then some (PV.loc st.nxt, (st1.restr st.nxt).alloc c) else none) = some (v', st2) := h
       split at h
       · rename_i hlb
         cases h
         exact fin_loc_ok p q hc hlb
       · cases h
  · exact go h

/-- where a body stands: names, scope, room -/
structure GoodX (X : Cx) (N : List Str) (sc : Scope) (fn : Str → Bool) (k : Nat) : Prop where
  hN : X.N = N
  hsc : X.env.scope = sc
  hfn : X.fn = fn
  calm : X.calm = true
  nd : N.Nodup
  xe : X.xe = fun _ _ => False
  room : Room k X.A
section
variable {P : Program} {w : World} {K : PySem.W.Frag} {mg : Str → Option Value} {base : Heap}
theorem fn_sound {x qual : Str} {st : Stmt} {f : Addr} {fd : FuncData} {N ps : List Str} {k : Nat} {D : DS} (F : Fun K x qual st f fd) (S : FnScope N ps (defScope st))
    (h : ∀ X : Cx, X.prog = P → X.w = w → X.K = K → X.mg = mg → X.base = base → GoodX X N (defScope st) (fun _ => true) k → SndSs X (defBody st) D) :
    FnOk P w K mg base CX0 (k + 1) f fd ps (spOf K ps.length (runF N.length ps.length D)) := by
  refine F.ok S (fun vs H Q E h => h.1) (fun cdv A outer s H vs Q E hr hsp => ?_)
  obtain ⟨hlen, F0, ρ, st0, args, v, st', W, r, hD, c⟩ := hsp
  refine ⟨_, pss_w, ?_⟩
  unfold runF at hD
  split at hD
  · rename_i hl
    have R : ERel K F0 ρ st0.nxt (args.map some ++ List.replicate (N.length - args.length) none) (L2.start N vs) := by
      unfold L2.start
      rw [r.length]
      refine ⟨by simp [r.length], fun i u e => ?_⟩
      by_cases q : i < args.length
      · rw [List.getElem?_append_left (by rw [List.length_map]; exact q), List.getElem?_map] at e
        cases z : args[i]? with
        | none => rw [z] at e; cases e
        | some y =>
          rw [z] at e; cases e
          obtain ⟨w, hw, rw'⟩ := r.get z
          refine ⟨w, ?_, rw'⟩
          rw [List.getElem?_append_left (by rw [List.length_map, ← r.length]; exact q), List.getElem?_map, hw]
          rfl
      · rw [List.getElem?_append_right (by rw [List.length_map]; omega), List.getElem?_replicate] at e
        split at e <;> cases e
    refine (fun (z : ∃ fl st1, D (args.map some ++ List.replicate (N.length - args.length) none) st0 = some (fl, st1) ∧ EndsOk K F0 ρ st0 H fl st1 { nx := fun _ H' => Q .non H', rt := Q }) => ?_) ?_
    · obtain ⟨fl, st1, z1, z2⟩ := z
      exact h _ rfl rfl rfl rfl rfl ⟨rfl, rfl, rfl, by have := hr.hd; first | rfl | exact decide_eq_true this | simp [cxOf, this], S.nd, rfl, hr⟩ F0 ρ _ st0 fl st1 _ H _ W R z1 z2
    · split at hD
      · rename_i u st1 z
        refine ⟨_, _, z, fun F1 ρ1 w1 H1 p1 r1 => ?_⟩
        obtain ⟨F2, ρ2, p2, r2⟩ := fin_ok p1 r1 hD
        exact c F2 ρ2 w1 H1 p2 r2
      · rename_i e st1 z
        refine ⟨_, _, z, fun F1 ρ1 σ1 H1 p1 R1 => ?_⟩
        obtain ⟨F2, ρ2, p2, r2⟩ := fin_ok p1 rel_non hD
        exact c F2 ρ2 .non H1 p2 r2
      · cases hD
  · cases hD
theorem fn_soundK {x qual : Str} {st : Stmt} {f : Addr} {fd : FuncData} {N ps : List Str} {k : Nat} {D : DS} (F : Fun K x qual st f fd) (S : FnScope N ps (defScope st))
    (h : ∀ X : Cx, X.prog = P → X.w = w → X.K = K → X.mg = mg → X.base = base → GoodX X N (defScope st) (fun _ => true) k → SndSs X (defBody st) D) :
    FnOk P w K mg base CX0 (k + 1) f fd ps (spOf K ps.length (runK N.length ps.length D)) := by
  refine F.ok S (fun vs H Q E h => h.1) (fun cdv A outer s H vs Q E hr hsp => ?_)
  obtain ⟨hlen, F0, ρ, st0, args, v, st', W, r, hD, c⟩ := hsp
  refine ⟨_, pss_w, ?_⟩
  unfold runK at hD
  split at hD
  · rename_i hl
    have R : ERel K F0 ρ st0.nxt (args.map some ++ List.replicate (N.length - args.length) none) (L2.start N vs) := by
      unfold L2.start
      rw [r.length]
      refine ⟨by simp [r.length], fun i u e => ?_⟩
      by_cases q : i < args.length
      · rw [List.getElem?_append_left (by rw [List.length_map]; exact q), List.getElem?_map] at e
        cases z : args[i]? with
        | none => rw [z] at e; cases e
        | some y =>
          rw [z] at e; cases e
          obtain ⟨w, hw, rw'⟩ := r.get z
          refine ⟨w, ?_, rw'⟩
          rw [List.getElem?_append_left (by rw [List.length_map, ← r.length]; exact q), List.getElem?_map, hw]
          rfl
      · rw [List.getElem?_append_right (by rw [List.length_map]; omega), List.getElem?_replicate] at e
        split at e <;> cases e
    refine (fun (z : ∃ fl st1, D (args.map some ++ List.replicate (N.length - args.length) none) st0 = some (fl, st1) ∧ EndsOk K F0 ρ st0 H fl st1 { nx := fun _ H' => Q .non H', rt := Q }) => ?_) ?_
    · obtain ⟨fl, st1, z1, z2⟩ := z
      exact h _ rfl rfl rfl rfl rfl ⟨rfl, rfl, rfl, by have := hr.hd; first | rfl | exact decide_eq_true this | simp [cxOf, this], S.nd, rfl, hr⟩ F0 ρ _ st0 fl st1 _ H _ W R z1 z2
    · split at hD
      · rename_i u st1 z
        cases hD
        exact ⟨_, _, z, c⟩
      · rename_i e st1 z
        cases hD
        exact ⟨_, _, z, fun F1 ρ1 σ1 H1 p1 R1 => c F1 ρ1 .non H1 p1 rel_non⟩
      · cases hD
  · cases hD
end
end DL

/-! DL6: from the text's syntax to the pieces, once for all. -/
namespace DL
open PySem PySem.Spec PyProof.Rows L2

/-- what the translator knows: slots, scope, defs (parameters, what they compute), built-ins that are still built-ins, places whose new list may change later -/
structure Ctx where
  N : List Str
  sc : Scope
  fn : Str → Bool
  G : List (Str × Nat × FSem)
  bs : List Str
  mu : List (Nat × Nat × Nat)
  cs : List (Str × PV) := []

def ixOf (x : Str) : List Str → Option Nat
  | [] => none
  | y :: r => if y = x then some 0 else (ixOf x r).map (· + 1)
theorem ixOf_get {x : Str} : ∀ {N : List Str} {i : Nat}, ixOf x N = some i → N[i]? = some x
  | [], _, h => by cases h
  | y :: r, i, h => by
    rw [ixOf] at h
    split at h
    · rename_i e
      cases h
      rw [e]; rfl
    · cases e : ixOf x r with
      | none => rw [e] at h; cases h
      | some j =>
        rw [e] at h; cases h
        show r[j]? = some x
        exact ixOf_get e
def Ctx.flag (C : Ctx) (p : Pos) : Bool := C.mu.contains (p.line, p.col, p.endCol)
def Ctx.flagI (C : Ctx) (p : Pos) : Bool := C.mu.contains (p.line, p.col, p.endCol + 2000000)
def Ctx.isGl (C : Ctx) (x : Str) : Bool := match C.sc.names.lookup x with
  | some .globalImplicit => true
  | _ => false
def Ctx.isB (C : Ctx) (x : Str) : Bool := C.isGl x && C.bs.contains x
def Ctx.vis (C : Ctx) (x : Str) : Bool := match C.sc.names.lookup x with
  | some .local => true
  | some .cell => true
  | some .free => true
  | _ => false
def Ctx.loc (C : Ctx) (x : Str) : Bool := match C.sc.names.lookup x with
  | some .local => true
  | some .cell => C.fn x
  | _ => false

def notStar : Expr → Bool
  | .Starred _ _ => false
  | _ => true
def notSet : Expr → Bool
  | .Set _ _ _ => false
  | _ => true
def notSlice : Expr → Bool
  | .Slice _ _ _ _ => false
  | _ => true
def notComp : Expr → Bool
  | .ListComp _ _ _ _ => false
  | .SetComp _ _ _ _ => false
  | .DictComp _ _ _ _ _ => false
  | _ => true
def notDisp : Expr → Bool
  | .Tuple _ _ _ => false
  | .List _ _ => false
  | _ => true
def notCall : Expr → Bool
  | .Call (.Name _ _) [] [] _ => false
  | _ => true

inductive BI where
  | len | abs | int | max | min | tuple | list | sorted | sum | any | dict
  deriving DecidableEq
def BI.nm : BI → Str
  | .len => "len" | .abs => "abs" | .int => "int" | .max => "max" | .min => "min" | .tuple => "tuple" | .list => "list" | .sorted => "sorted" | .sum => "sum" | .any => "any" | .dict => "dict"
def BI.all : List BI := [.len, .abs, .int, .max, .min, .tuple, .list, .sorted, .sum, .any, .dict]
noncomputable def BI.sem (m : Bool) : BI → FSem
  | .len => bLen | .abs => bAbs | .int => bInt | .max => bMax | .min => bMin | .tuple => bTuple | .list => bList m | .sorted => bSorted m | .sum => bSum | .any => bAny | .dict => bDict m
def BI.of (x : Str) : Option BI := BI.all.find? fun b => b.nm = x
def BTy.all : List BTy := [.int, .bool, .str, .list, .tuple, .dict]
def BTy.of (x : Str) : Option BTy := BTy.all.find? fun b => b.name = x
theorem BI.of_nm {x : Str} {b : BI} (h : BI.of x = some b) : x = b.nm := by
  have := List.find?_some h
  exact (of_decide_eq_true this).symm
theorem BTy.of_name {x : Str} {b : BTy} (h : BTy.of x = some b) : x = b.name := by
  have := List.find?_some h
  exact (of_decide_eq_true this).symm
inductive LM where
  | append | pop | reverse | popAt | insert | extend
  deriving DecidableEq
def LM.nm : LM → Str
  | .append => "append" | .pop => "pop" | .reverse => "reverse" | .popAt => "pop" | .insert => "insert" | .extend => "extend"
def LM.of (x : Str) (k : Nat) : Option LM := if x = "append" ∧ k = 1 then some .append else if x = "pop" ∧ k = 0 then some .pop else if x = "reverse" ∧ k = 0 then some .reverse else if x = "pop" ∧ k = 1 then some .popAt else if x = "insert" ∧ k = 2 then some .insert else if x = "extend" ∧ k = 1 then some .extend else none
def LM.sem : LM → Nat → FSem
  | .append => mAppend | .pop => mPop | .reverse => mReverse | .popAt => mPopAt | .insert => mInsert | .extend => mExtend

def opSem (m : Bool) : Operator → Option (PV → PV → M PV)
  | .Add => some (opAdd m)
  | .Sub => some opSub
  | .Mult => some opMul
  | .Mod => some opMod
  | .FloorDiv => some opDiv
  | .Pow => some opPow
  | _ => none
def cmpSem : CmpOp → Option (PV → PV → M PV)
  | .Eq => some (cmpEq false)
  | .NotEq => some (cmpEq true)
  | .Lt => some cmpLt
  | .LtE => some (cmpI fun i j => decide (i ≤ j))
  | .Gt => some (cmpI fun i j => decide (j < i))
  | .GtE => some cmpGe
  | .In => some (cmpIn false)
  | .NotIn => some (cmpIn true)
  | _ => none
/-- d: both are dicts -/
def cmpSemD (d : Bool) (op : CmpOp) : Option (PV → PV → M PV) := if d then (match op with
  | .Eq => some (cmpEqD false)
  | .NotEq => some (cmpEqD true)
  | _ => none) else cmpSem op
def isNeg : CmpOp → Option Bool
  | .Is => some false
  | .IsNot => some true
  | _ => none

def trName (C : Ctx) (x : Str) (fz : Bool) : Option DE := match ixOf x C.N with
  | some i => if C.vis x && !(x == ("__debug__" : Str)) && !(x == ("__classdict__" : Str)) then (if fz then some (dFrz i) else some (dVar i)) else none
  | none => if C.isGl x && !(x == ("__debug__" : Str)) && !fz then (C.cs.lookup x).map dCst else none
def trConst : Const → Option DE
  | .int i => some (dCst (.int i))
  | .bool b => some (dCst (.bl b))
  | .str s => some (dCst (.str s))
  | .none => some (dCst .non)
  | _ => none
def trAs (f : Expr → Option DE) : List Expr → Option DA
  | [] => some aNil
  | e :: r => if notStar e then match f e, trAs f r with
    | some A, some D => some (aCons A D)
    | _, _ => none
    else none
def isNone : Expr → Bool
  | .Constant .none _ _ => true
  | _ => false
def trCmp (d : Bool) (f : Expr → Option DE) (a : Expr) : List CmpOp → List Expr → Option DE
  | [op], [b] => match isNeg op with
    | some neg => if isNone b then (f a).map (dUn (cmpIsN neg)) else none
    | none => if notSet b then match f a, f b, cmpSemD d op with
      | some A, some B, some g => some (dBin g A B)
      | _, _, _ => none
      else none
  | [op, op'], [b, c] => if notSet c then match f a, f b, f c, cmpSem op, cmpSem op' with
      | some A, some B, some D, some g, some g' => some (dChain g g' A B D)
      | _, _, _, _, _ => none
      else none
  | _, _ => none
def trBools (f : Expr → Option DE) (op : DE → DE → DE) : List Expr → Option DE
  | [] => none
  | [e] => f e
  | e :: e2 :: r => match f e, trBools f op (e2 :: r) with
    | some A, some D => some (op A D)
    | _, _ => none
def constKeys : List (Option Expr) → Option (List KK)
  | [] => some []
  | some (.Constant (.str x) _ _) :: r => (constKeys r).map (.inr x :: ·)
  | some (.Constant (.int i) _ _) :: r => (constKeys r).map (.inl i :: ·)
  | _ => none
def trDisp (f : Expr → Option DE) (keys : List (Option Expr)) (values : List Expr) : Option DE := match constKeys keys, trAs f values with
  | some ks, some D => if keys.length = values.length ∧ keys.isEmpty = false ∧ keys.length ≤ 15 then some (dDisp ks D) else none
  | _, _ => none
def trTests (f : Expr → Option DT) (op : DT → DT → DT) : List Expr → Option DT
  | [] => none
  | [e] => f e
  | e :: e2 :: r => match f e, trTests f op (e2 :: r) with
    | some A, some D => some (op A D)
    | _, _ => none
def trO (f : Expr → Option DE) : Option Expr → Option DO
  | none => some oNone
  | some e => (f e).map oSome
def trSub (C : Ctx) (f : Expr → Option DE) (a i : Expr) (pos : Pos) : Option DE := match i with
  | .Slice none none (some (.UnaryOp .USub (.Constant (.int 1) _ _) _)) _ => (f a).map dRvT
  | .Slice lo hi none _ => match f a, trO f lo, trO f hi with
    | some A, some L, some U => some (dSl (C.flag pos) A L U)
    | _, _, _ => none
  | i => if notSlice i then match f a, f i with
    | some A, some I => some (dBin opIx A I)
    | _, _ => none
    else none
def isIsi : List Expr → Option (Expr × Str)
  | [a, .Name t _] => some (a, t)
  | _ => none
def isSet (x : Str) : List Expr → Option Expr
  | [.Call (.Name y _) [a] [] _] => if x = "sorted" ∧ y = "set" then some a else none
  | _ => none
def isRngA (x : Str) : List Expr → Option Expr
  | [.Call (.Name y _) [a] [] _] => if (x = "list" ∨ x = "tuple") ∧ y = "range" then some a else none
  | _ => none
theorem isRngA_eq {x : Str} {es : List Expr} {a : Expr} (h : isRngA x es = some a) : (x = "list" ∨ x = "tuple") ∧ ∃ p2 pos2, es = [.Call (.Name "range" p2) [a] [] pos2] := by
  unfold isRngA at h
  split at h
  · split at h
    · rename_i q
      cases h
      obtain ⟨q, rfl⟩ := q
      exact ⟨q, _, _, rfl⟩
    · cases h
  · cases h
theorem mapS {α β : Type} {D : Option α} {f : α → β} {b : β} (h : D.map f = some b) : ∃ A, D = some A ∧ b = f A := by
  cases D with
  | none => cases h
  | some A => cases h; exact ⟨A, rfl, rfl⟩
theorem isSet_eq {x : Str} {es : List Expr} {a : Expr} (h : isSet x es = some a) : x = "sorted" ∧ ∃ p2 pos2, es = [.Call (.Name "set" p2) [a] [] pos2] := by
  unfold isSet at h
  split at h
  · split at h
    · rename_i q
      cases h
      obtain ⟨rfl, rfl⟩ := q
      exact ⟨rfl, _, _, rfl⟩
    · cases h
  · cases h
noncomputable def trCallN (C : Ctx) (f : Expr → Option DE) (x : Str) (as : List Expr) (pos : Pos) : Option DE := match as with
  | [] => none
  | e :: r =>
    if x = "isinstance" then (if C.isB x then match isIsi (e :: r) with
      | some (a, t) => if notStar a && C.isB t then match BTy.of t, f a with
        | some T, some A => some (dUn (bIsi T) A)
        | _, _ => none
        else none
      | none => none
      else none)
    else if C.isB x then match isSet x (e :: r) with
      | some a => if C.isB "set" && notStar a then (f a).map fun A => dApp (bSortedSet (C.flag pos)) (aCons A aNil) else none
      | none => match isRngA x (e :: r) with
        | some a => if C.isB "range" && notStar a then (f a).map fun A => if x = "list" then dListR (C.flag pos) A else dTupR A else none
        | none => match BI.of x, trAs f (e :: r) with
          | some b, some D => some (dApp (b.sem (C.flag pos)) D)
          | _, _ => none
    else if C.isGl x && !(x == ("__debug__" : Str)) then match C.G.lookup x, trAs f (e :: r) with
      | some (np, S), some D => if (e :: r).length = np then some (dCall S (C.flag pos) D) else none
      | _, _ => none
    else none
def trGet (f : Expr → Option DE) (o : Expr) : List Expr → Option DE
  | [e, v] => if notStar e && notStar v then match f o, f e, f v with
    | some O, some K, some V => some (dGet2 O K V)
    | _, _, _ => none
    else none
  | [e] => if notStar e then match f o, f e with
    | some O, some K => some (dGet1 O K)
    | _, _ => none
    else none
  | _ => none
def trSetd (f : Expr → Option DE) (o : Expr) : List Expr → Option DE
  | [e, v] => if notStar e && notStar v then match f o, f e, f v with
    | some O, some K, some V => some (dSetd O K V)
    | _, _, _ => none
    else none
  | _ => none
def trM1 (D : DE → DE → DE) (f : Expr → Option DE) (o : Expr) : List Expr → Option DE
  | [e] => if notStar e then match f o, f e with
    | some O, some K => some (D O K)
    | _, _ => none
    else none
  | _ => none
/-- dp: the pop is that of a dict -/
def trMeth (dp : Bool) (f : Expr → Option DE) (o : Expr) (name : Str) (as : List Expr) (apos pos : Pos) : Option DE :=
  if name = "get" then (if notCall o && apos.endLine == pos.line then trGet f o as else none)
  else if name = "setdefault" then (if notCall o && apos.endLine == pos.line then trSetd f o as else none)
  else if name = "index" then (if notCall o && apos.endLine == pos.line then trM1 dIndex f o as else none)
  else if dp = true ∧ name = "pop" then (if notCall o && apos.endLine == pos.line then trM1 dPop1 f o as else none)
  else if notCall o && apos.endLine == pos.line then match LM.of name as.length, f o, trAs f as with
    | some m, some O, some D => some (dMetL m.sem O D)
    | _, _, _ => none
  else none
def ownOf (N : List Str) : List (Str × NameKind) → List (Str × Nat)
  | [] => []
  | (x, k) :: r => if k = .local ∨ k = .cell then match ixOf x N with
    | some i => (x, i) :: ownOf N r
    | none => ownOf N r
    else ownOf N r
def Ctx.blk (C : Ctx) (scope : Scope) : Ctx := { C with sc := relS scope C.sc, fn := fun x => scope.names.lookup x == some .cell }
def trTuple (f : Expr → Option (DG × List Nat)) : List Expr → Option (List DG × List Nat)
  | [] => some ([], [])
  | e :: r => if notStar e then match f e, trTuple f r with
    | some (G, js), some (Gs, ks) => some (G :: Gs, js ++ ks)
    | _, _ => none
    else none
def isItems : Expr → Option (Expr × Pos × Pos)
  | .Call (.Attribute o name ap) [] [] p => if name = "items" then some (o, ap, p) else none
  | _ => none
theorem isItems_eq {e o : Expr} {ap p : Pos} (h : isItems e = some (o, ap, p)) : e = .Call (.Attribute o "items" ap) [] [] p := by
  unfold isItems at h
  split at h
  · split at h
    · rename_i q
      cases h
      rw [q]
    · cases h
  · cases h
def isEnum (C : Ctx) : Expr → Option Expr
  | .Call (.Name x _) [a] [] _ => if x = "enumerate" ∧ C.isB x = true then some a else none
  | _ => none
theorem isEnum_eq {C : Ctx} {e a : Expr} (h : isEnum C e = some a) : ∃ p pos, e = .Call (.Name "enumerate" p) [a] [] pos ∧ C.isB "enumerate" = true := by
  unfold isEnum at h
  split at h
  · split at h
    · rename_i q
      cases h
      obtain ⟨rfl, q⟩ := q
      exact ⟨_, _, rfl, q⟩
    · cases h
  · cases h
def isTupE : Expr → Bool
  | .Tuple _ _ _ => true
  | _ => false
/-- what a for walks, its target known -/
def trFor (tE : Ctx → Expr → Option DE) (tI : Ctx → Expr → Option DI) (C : Ctx) (tg it : Expr) : Option DI := match isItems it with
  | some (o, ap, p) => if isTupE tg && notCall o && ap.endLine == p.line then (tE C o).map iItems else none
  | none => match isEnum C it with
    | some a => if isTupE tg && notStar a then (tE C a).map iEnumP else none
    | none => tI C it
noncomputable def trLc (C : Ctx) (m : Bool) (scope : Scope) (tE : Ctx → Expr → Option DE) (tT : Ctx → Expr → Option DT) (tI : Ctx → Expr → Option DI) (tG : Ctx → Expr → Option (DG × List Nat)) (elt tg it : Expr) (ifs : List Expr) : Option DE :=
  if blkC C.N C.sc scope (ownOf C.N scope.names) && notSet it then
    match trFor tE tI C tg it, tG (C.blk scope) tg, tE (C.blk scope) elt with
    | some I, some (G, js), some A =>
      if js.all fun j => ((ownOf C.N scope.names).map (·.2)).contains j then
        match ifs with
        | [] => some (dLc m ((ownOf C.N scope.names).map (·.2)) I G tYes A)
        | [c] => (tT (C.blk scope) c).map fun T => dLc m ((ownOf C.N scope.names).map (·.2)) I G T A
        | _ => none
      else none
    | _, _, _ => none
  else none
def isOneGen : List Comprehension → Option (Expr × Expr × List Expr)
  | [⟨tg, it, ifs, a⟩] => if a = 0 then some (tg, it, ifs) else none
  | _ => none
def isRng (C : Ctx) : Expr → Option (List Expr)
  | .Call (.Name x _) as [] _ => if x = "range" ∧ C.isB x then some as else none
  | _ => none

def isRev (C : Ctx) : Expr → Option Expr
  | .Call (.Name x _) [a] [] _ => if x = "reversed" ∧ C.isB x then some a else none
  | _ => none
theorem isRev_eq {C : Ctx} {e a : Expr} (h : isRev C e = some a) : ∃ p pos, e = .Call (.Name "reversed" p) [a] [] pos ∧ C.isB "reversed" = true := by
  unfold isRev at h
  split at h
  · split at h
    · rename_i q
      cases h
      obtain ⟨rfl, q⟩ := q
      exact ⟨_, _, rfl, q⟩
    · cases h
  · cases h
abbrev FE := Ctx → Expr → Option DE
abbrev FT := Ctx → Expr → Option DT
abbrev FI := Ctx → Expr → Option DI
abbrev FG := Ctx → Expr → Option (DG × List Nat)
noncomputable def trE1 (tE : FE) (tT : FT) (tI : FI) (tG : FG) (C : Ctx) (e : Expr) : Option DE := match e with
    | .Name x p => trName C x (C.flag p)
    | .Constant c _ _ => trConst c
    | .BinOp a op b p => match tE C a, tE C b, opSem (C.flag p) op with
      | some A, some B, some g => some (dBin g A B)
      | _, _, _ => none
    | .UnaryOp op a _ => match op with
      | .USub => (tE C a).map (dUn opNeg)
      | .Not => (tE C a).map (dUn opNot)
      | _ => none
    | .BoolOp op es _ => match op with
      | .And => trBools (tE C) dAnd es
      | .Or => trBools (tE C) dOr es
    | .Compare a ops bs p => trCmp (C.flagI p) (tE C) a ops bs
    | .IfExp t a b _ => match tT C t, tE C a, tE C b with
      | some T, some A, some B => some (dIte T A B)
      | _, _, _ => none
    | .Tuple es _ _ => (trAs (tE C) es).map dTup
    | .List es p => (trAs (tE C) es).map (dLst (C.flag p))
    | .Dict ks vs p => match ks, vs with
      | [], [] => if C.flagI p then some dDctI else some (dDct0 (C.flag p))
      | ks, vs => trDisp (tE C) ks vs
    | .Subscript a i p => trSub C (tE C) a i p
    | .Call f as ks p => match ks with
      | [] => match f with
        | .Name x _ => trCallN C (tE C) x as p
        | .Attribute o name ap => trMeth (C.flagI p) (tE C) o name as ap p
        | _ => none
      | _ => none
    | .ListComp elt gs scope p => match isOneGen gs with
      | some (tg, it, ifs) => trLc C (C.flag p) scope tE tT tI tG elt tg it ifs
      | none => none
    | _ => none
def trT1 (tE : FE) (tT : FT) (C : Ctx) (e : Expr) : Option DT := match e with
    | .UnaryOp op a p => match op with
      | .Not => (tT C a).map tNot
      | _ => none
    | .BoolOp op es _ => match op with
      | .And => trTests (tT C) tAnd es
      | .Or => trTests (tT C) tOr es
    | .Compare a ops bs p => (trCmp (C.flagI p) (tE C) a ops bs).map tVal
    | .Name x p => (tE C (.Name x p)).map tTru
    | .Call f as ks p => (tE C (.Call f as ks p)).map tVal
    | .Subscript a i p => (tE C (.Subscript a i p)).map tVal
    | _ => none
def trI1 (tE : FE) (C : Ctx) (e : Expr) : Option DI := match isRng C e with
    | some [a] => if notStar a then (tE C a).map iRng1 else none
    | some [a, b] => if notStar a && notStar b then match tE C a, tE C b with
      | some A, some B => some (iRng2 A B)
      | _, _ => none
      else none
    | some _ => none
    | none => match isRev C e with
      | some a => if notStar a then (tE C a).map iRev else none
      | none => (tE C e).map iSeq
def trG1 (tE : FE) (tG : FG) (C : Ctx) (e : Expr) : Option (DG × List Nat) := match e with
    | .Name x _ => match ixOf x C.N with
      | some i => if C.loc x then some (gName i, [i]) else none
      | none => none
    | .Tuple es _ _ => match trTuple (tG C) es with
      | some (Gs, js) => some (gTup Gs, js)
      | none => none
    | .Subscript o i _ => if notSlice i then match tE C o, tE C i with
      | some O, some I => some (gSub O I, [])
      | _, _ => none
      else none
    | _ => none
mutual
noncomputable def trE : Nat → FE
  | 0 => fun _ _ => none
  | n + 1 => trE1 (trE n) (trT n) (trI n) (trG n)
noncomputable def trT : Nat → FT
  | 0 => fun _ _ => none
  | n + 1 => trT1 (trE n) (trT n)
noncomputable def trI : Nat → FI
  | 0 => fun _ _ => none
  | n + 1 => trI1 (trE n)
noncomputable def trG : Nat → FG
  | 0 => fun _ _ => none
  | n + 1 => trG1 (trE n) (trG n)
end
def isLcAsg (C : Ctx) (pos : Pos) : List Expr → Expr → Option (Str × Expr × Expr × Expr × List Expr × Scope × Pos)
  | [.Name y py], .ListComp elt gs scope p => match isOneGen gs with
    | some (tg, it, ifs) => if py.line == p.line && !(scope.names.any fun (n, k) => n == y && (k == .local || k == .cell)) then some (y, elt, tg, it, ifs, scope, p) else none
    | none => none
  | _, _ => none
def isLocal (C : Ctx) (x : Str) : Bool := match C.sc.names.lookup x with
  | some .local => true
  | _ => false
def okAsg : List Expr → Expr → Bool
  | [.Name _ _], e => notComp e
  | [.Tuple _ _ _], e => notComp e && notDisp e
  | [.Subscript _ _ _], e => notComp e
  | _, _ => false
abbrev FS := Ctx → Stmt → Option DS
abbrev FSs := Ctx → List Stmt → Option DS
noncomputable def trS1 (tE : FE) (tT : FT) (tI : FI) (tG : FG) (tSs : FSs) (C : Ctx) (s : Stmt) : Option DS := match s with
    | .Return v _ => match v with
      | none => some sRetN
      | some e => (tE C e).map sRet
    | .Expr e _ => match e with
      | .Constant (.str _) _ _ => some sPass
      | .Call f as ks p => (tE C (.Call f as ks p)).map sExpr
      | _ => none
    | .Assign tgs e pos => match isLcAsg C pos tgs e with
      | some (y, elt, tg, it, ifs, scope, p) => match trLc C (C.flag p) scope tE tT tI tG elt tg it ifs, ixOf y C.N with
        | some A, some i => if isLocal C y then some (sAsg A (gName i)) else if C.loc y then some (sAsg A (gName i)) else none
        | _, _ => none
      | none => if okAsg tgs e then match tE C e, tG C (tgs.headD e) with
        | some A, some (G, _) => some (sAsg A G)
        | _, _ => none
        else none
    | .If t a b _ => match tT C t, tSs C a, tSs C b with
      | some T, some A, some B => some (sIf T A B)
      | _, _, _ => none
    | .For tg it a b _ => match b with
      | [] => if notSet it then match trFor tE tI C tg it, tG C tg, tSs C a with
        | some I, some (G, _), some A => some (sFor I G A)
        | _, _, _ => none
        else none
      | _ => none
    | .While t a b _ => match b with
      | [] => match tT C t, tSs C a with
        | some T, some A => some (sWhile T A)
        | _, _ => none
      | _ => none
    | .Pass _ => some sPass
    | .Break _ => some sBreak
    | .Continue _ => some sCont
    | _ => none
/-- a for ahead of which a name's place becomes a value: flagged by (line, column, 1000000 + slot) -/
def frzOf (C : Ctx) : Stmt → Option Nat
  | .For _ _ _ _ p => (List.range C.N.length).find? fun i => C.mu.contains (p.line, p.col, 1000000 + i)
  | _ => none
def preF (C : Ctx) (s : Stmt) (D : DS) : DS := match frzOf C s with
  | some i => sSeq (sFrz i) D
  | none => D
theorem preF_ok {X : Cx} {C : Ctx} {s : Stmt} {ss : List Stmt} {D : DS} (h : SndSs X ss D) : SndSs X ss (preF C s D) := by
  unfold preF
  split
  · exact sss_frz h
  · exact h
def trSs1 (tS : FS) (tSs : FSs) (C : Ctx) (ss : List Stmt) : Option DS := match ss with
    | [] => some sPass
    | [s] => (tS C s).map (preF C s)
    | s :: r => match tS C s, tSs C r with
      | some A, some B => some (preF C s (sSeq A B))
      | _, _ => none
mutual
noncomputable def trS : Nat → FS
  | 0 => fun _ _ => none
  | n + 1 => trS1 (trE n) (trT n) (trI n) (trG n) (trSs n)
noncomputable def trSs : Nat → FSs
  | 0 => fun _ _ => none
  | n + 1 => trSs1 (trS n) (trSs n)
end

/-! ### it is right -/
/-- the defs keep their promises -/
def GOk (X : Cx) (G : List (Str × Nat × FSem)) (k : Nat) : Prop := ∀ x np S, G.lookup x = some (np, S) → ∃ f fd ps, FnOk X.prog X.w X.K X.mg X.base CX0 k f fd ps (spOf X.K np S) ∧ X.mg x = some (.ref f) ∧ PySem.W.keepIn X.K (.ref f) = true ∧ Binds X.K fd ps []
/-- the module's constants -/
def COk (X : Cx) (cs : List (Str × PV)) : Prop := ∀ x v, cs.lookup x = some v → ∃ w u, X.mg x = some u ∧ RelV w u ∧ ∀ F ρ n, RelP X.K F ρ n v w
structure Good (X : Cx) (C : Ctx) (k : Nat) : Prop where
  x : GoodX X C.N C.sc C.fn k
  g : GOk X C.G k
  b : ∀ n, C.bs.contains n = true → X.mg n = none
  kd : X.env.scope.kind = .function
  c : COk X C.cs
section
variable {X : Cx} {C : Ctx} {k : Nat}
theorem Good.gl (g : Good X C k) {x : Str} (h : C.isGl x = true) : Gl X x := by
  unfold Ctx.isGl at h
  show X.env.scope.names.lookup x = some .globalImplicit
  rw [g.x.hsc]
  split at h
  · assumption
  · cases h
theorem Good.bi (g : Good X C k) {x : Str} (h : C.isB x = true) : Gl X x ∧ X.mg x = none := by
  unfold Ctx.isB at h
  rw [Bool.and_eq_true] at h
  exact ⟨g.gl h.1, g.b x h.2⟩
theorem Good.vis (g : Good X C k) {x : Str} (h : C.vis x = true) : Vis X.env.scope x := by
  unfold Ctx.vis at h
  unfold Vis
  rw [g.x.hsc]
  split at h
  · exact .inl (by assumption)
  · exact .inr (.inl (by assumption))
  · exact .inr (.inr (by assumption))
  · cases h
theorem Good.loc (g : Good X C k) {x : Str} (h : C.loc x = true) : L2.Loc X.env.scope x ∧ (X.fn x = true ∨ X.env.scope.names.lookup x = some .local) := by
  unfold Ctx.loc at h
  unfold L2.Loc
  rw [g.x.hsc, g.x.hfn]
  split at h
  · exact ⟨.inl (by assumption), .inr (by assumption)⟩
  · exact ⟨.inr (by assumption), .inl h⟩
  · cases h
theorem Good.blk (g : Good X C k) (scope : Scope) (hk : scope.kind = .function) : Blk X scope fun Y => Good Y (C.blk scope) k := fun s H A cl fp => by
  refine ⟨⟨g.x.hN, ?_, rfl, g.x.calm, g.x.nd, rfl, g.x.room⟩, g.g, g.b, hk, g.c⟩
  show relabel scope X.env = relS scope C.sc
  rw [← g.x.hsc]
  rfl
theorem starEach_cons {e : Expr} {es : List Expr} {env : PySem.Env} (h : notStar e = true) : starEach (e :: es) env = (false, eval e env) :: starEach es env := by
  cases e <;> first | rfl | cases h
theorem starEach_plain {env : PySem.Env} {pos : Pos} : ∀ {es : List Expr}, es.all notStar = true → (backTo pos (starEach es env)).any (·.1) = false ∧ (starEach es env).length = es.length
  | [], _ => by
    have e : starEach [] env = [] := rfl
    rw [e]; exact ⟨rfl, rfl⟩
  | e :: es, h => by
    rw [List.all_cons, Bool.and_eq_true] at h
    obtain ⟨h1, h2⟩ := starEach_plain (env := env) (pos := pos) h.2
    rw [starEach_cons h.1]
    refine ⟨?_, by rw [List.length_cons, List.length_cons, h2]⟩
    show (false || (backTo pos (starEach es env)).any (·.1)) = false
    rw [h1]; rfl
theorem trAs_plain {f : Expr → Option DE} : ∀ {es : List Expr} {D : DA}, trAs f es = some D → es.all notStar = true
  | [], _, _ => rfl
  | e :: r, D, h => by
    rw [trAs] at h
    split at h
    · rename_i q
      split at h
      · rename_i A D' _ h2
        rw [List.all_cons, q, trAs_plain h2]; rfl
      · cases h
    · cases h
theorem trAs_ok {f : Expr → Option DE} (hf : ∀ e A, f e = some A → SndE X e A) : ∀ {es : List Expr} {D : DA}, trAs f es = some D → SndA X es D
  | [], _, h => by rw [trAs] at h; cases h; exact snd_anil
  | e :: r, D, h => by
    rw [trAs] at h
    split at h
    · rename_i q
      split at h
      · rename_i A D' h1 h2
        cases h
        exact snd_acons (starEach_cons q) (hf e A h1) (trAs_ok hf h2)
      · cases h
    · cases h
theorem trAs_len {f : Expr → Option DE} : ∀ {es : List Expr} {D : DA}, trAs f es = some D → ∀ env st xs st', D env st = some (xs, st') → xs.length = es.length
  | [], _, h, env, st, xs, st', h2 => by rw [trAs] at h; cases h; cases h2; rfl
  | e :: r, D, h, env, st, xs, st', h2 => by
    rw [trAs] at h
    split at h
    · split at h
      · rename_i A D' _ hd
        cases h
        obtain ⟨x, s1, _, h2⟩ := mb_eq h2
        obtain ⟨ys, s2, h3, h2⟩ := mb_eq h2
        cases h2
        rw [List.length_cons, List.length_cons, trAs_len hd _ _ _ _ h3]
      · cases h
    · cases h
theorem opSem_ok {m : Bool} {op : Operator} {g : PV → PV → M PV} (h : opSem m op = some g) : SndO X (binaryOp op) g := by
  cases op <;> cases h
  · exact so_add
  · exact so_sub
  · exact so_mul
  · exact so_mod
  · exact so_pow
  · exact so_div
theorem cmpSem_ok (g : Good X C k) {op : CmpOp} {f : PV → PV → M PV} (h : cmpSem op = some f) : SndO X (compareOp op) f := by
  have hu : X.A.units + 65 < cLine := by have := g.x.room.un; omega
  cases op <;> cases h
  · exact so_eq hu
  · exact so_ne hu
  · exact so_lt hu
  · exact so_le
  · exact so_gt
  · exact so_geD hu
  · exact so_in hu
  · exact so_notIn hu
theorem cmpSemD_ok (g : Good X C k) {d : Bool} {op : CmpOp} {f : PV → PV → M PV} (h : cmpSemD d op = some f) : SndO X (compareOp op) f := by
  have hu : X.A.units + 65 < cLine := by have := g.x.room.un; omega
  unfold cmpSemD at h
  split at h
  · split at h
    · cases h
      exact so_dEq hu false
    · cases h
      exact so_dEq hu true
    · cases h
  · exact cmpSem_ok g h
theorem isNone_eq {b : Expr} (h : isNone b = true) : ∃ j p, b = .Constant .none j p := by
  unfold isNone at h
  split at h
  · exact ⟨_, _, rfl⟩
  · cases h
theorem isNeg_eq {op : CmpOp} {neg : Bool} (h : isNeg op = some neg) : op = isOp neg := by
  cases op <;> cases h <;> rfl
theorem noMark {op : CmpOp} {b : Expr} (h : notSet b = true) : behindInMarks op b = false := by
  cases b <;> first | rfl | cases h
theorem trCmp_ok (g : Good X C k) {f : Expr → Option DE} (hf : ∀ e A, f e = some A → SndE X e A) {a : Expr} {ops : List CmpOp} {bs : List Expr} {pos : Pos} {D : DE} {d : Bool} (h : trCmp d f a ops bs = some D) : SndE X (.Compare a ops bs pos) D ∧ SndT X (.Compare a ops bs pos) (tVal D) := by
  unfold trCmp at h
  split at h
  · rename_i op b
    split at h
    · rename_i neg hn
      split at h
      · rename_i hb
        obtain ⟨j, p, rfl⟩ := isNone_eq hb
        cases isNeg_eq hn
        cases ha : f a with
        | none => rw [ha] at h; cases h
        | some A =>
          rw [ha] at h; cases h
          exact ⟨snd_isN (hf a A ha), tst_isN (hf a A ha)⟩
      · cases h
    · split at h
      · rename_i hs
        split at h
        · rename_i A B q ha hb hq
          cases h
          exact ⟨snd_cmp (cmpSemD_ok g hq) (hf a A ha) (hf b B hb) (noMark hs), tst_cmp (cmpSemD_ok g hq) (hf a A ha) (hf b B hb) (noMark hs)⟩
        · cases h
      · cases h
  · rename_i op op' b c
    split at h
    · rename_i hs
      split at h
      · rename_i A B D' q q' ha hb hc hq hq'
        cases h
        have hm : lastMarks [op, op'] [b, c] = false := noMark (op := op') hs
        exact ⟨snd_chain (cmpSem_ok g hq) (cmpSem_ok g hq') (hf a A ha) (hf b B hb) (hf c D' hc) hm, tst_chain (cmpSem_ok g hq) (cmpSem_ok g hq') (hf a A ha) (hf b B hb) (hf c D' hc) hm⟩
      · cases h
    · cases h
  · cases h
theorem trBools_and {f : Expr → Option DE} (hf : ∀ e A, f e = some A → SndE X e A) {pos : Pos} : ∀ {es : List Expr} {D : DE}, trBools f dAnd es = some D → SndE X (.BoolOp .And es pos) D
  | [], _, h => by cases h
  | [e], D, h => snd_one (hf e D h)
  | e :: e2 :: r, D, h => by
    rw [trBools] at h
    split at h
    · rename_i A D' h1 h2
      cases h
      exact snd_and (hf e A h1) (trBools_and hf h2)
    · cases h
theorem trBools_or {f : Expr → Option DE} (hf : ∀ e A, f e = some A → SndE X e A) {pos : Pos} : ∀ {es : List Expr} {D : DE}, trBools f dOr es = some D → SndE X (.BoolOp .Or es pos) D
  | [], _, h => by cases h
  | [e], D, h => snd_one (hf e D h)
  | e :: e2 :: r, D, h => by
    rw [trBools] at h
    split at h
    · rename_i A D' h1 h2
      cases h
      exact snd_or (hf e A h1) (trBools_or hf h2)
    · cases h
theorem trTests_and {f : Expr → Option DT} (hf : ∀ e A, f e = some A → SndT X e A) {pos : Pos} : ∀ {es : List Expr} {D : DT}, trTests f tAnd es = some D → SndW X (.BoolOp .And es pos) D
  | [], _, h => by cases h
  | [e], D, h => w_and1 (hf e D h)
  | e :: e2 :: r, D, h => by
    rw [trTests] at h
    split at h
    · rename_i A D' h1 h2
      cases h
      exact w_and (hf e A h1) (trTests_and hf h2)
    · cases h
theorem trTests_or {f : Expr → Option DT} (hf : ∀ e A, f e = some A → SndT X e A) {pos : Pos} : ∀ {es : List Expr} {D : DT}, trTests f tOr es = some D → SndW X (.BoolOp .Or es pos) D
  | [], _, h => by cases h
  | [e], D, h => w_or1 (hf e D h)
  | e :: e2 :: r, D, h => by
    rw [trTests] at h
    split at h
    · rename_i A D' h1 h2
      cases h
      exact w_or (hf e A h1) (trTests_or hf h2)
    · cases h
theorem trO_ok {f : Expr → Option DE} (hf : ∀ e A, f e = some A → SndE X e A) {o : Option Expr} {D : DO} (h : trO f o = some D) : SndOp X o D := by
  cases o with
  | none => cases h; exact sop_none
  | some e =>
    rw [trO] at h
    cases ha : f e with
    | none => rw [ha] at h; cases h
    | some A => rw [ha] at h; cases h; exact sop_some (hf e A ha)
theorem plainIx {i : Expr} (h : notSlice i = true) : PlainIx i := by
  intro o v
  cases i <;> first | rfl | cases h
theorem trSub_ok (hu : X.A.units + 65 < cLine) {f : Expr → Option DE} (hf : ∀ e A, f e = some A → SndE X e A) {a i : Expr} {pos : Pos} {D : DE} (h : trSub C f a i pos = some D) : SndE X (.Subscript a i pos) D := by
  unfold trSub at h
  split at h
  · obtain ⟨A, h1, rfl⟩ := mapS h
    exact snd_rvT (hf _ _ h1)
  · split at h
    · rename_i A L U h1 h2 h3
      cases h
      exact snd_sl (hf _ _ h1) (trO_ok hf h2) (trO_ok hf h3)
    · cases h
  · split at h
    · rename_i hs
      split at h
      · rename_i A I h1 h2
        cases h
        exact snd_ix (plainIx hs) (hf _ _ h1) (hf _ _ h2) (snd_opIx hu)
      · cases h
    · cases h
theorem bi_ok (g : Good X C k) {b : BI} {m : Bool} {e : Expr} {es : List Expr} {D : DA} {p pos : Pos} (hg : Gl X b.nm) (hm : X.mg b.nm = none) (ha : SndA X (e :: es) D) (he : starEach (e :: es) X.env = (false, eval e X.env) :: starEach es X.env) (hpl : (backTo pos (starEach es X.env)).any (·.1) = false) :
    SndE X (.Call (.Name b.nm p) (e :: es) [] pos) (dApp (b.sem m) D) := by
  cases b
  · exact snd_callB sc_len hg hm (by decide +kernel) ha (by decide +kernel) (by decide +kernel) he hpl
  · exact snd_callB sc_abs hg hm (by decide +kernel) ha (by decide +kernel) (by decide +kernel) he hpl
  · exact snd_callTy sc_int hg hm (by decide +kernel) ha (by decide +kernel) (by decide +kernel) he hpl
  · exact snd_callB (sc_max g.x.calm) hg hm (by decide +kernel) ha (by decide +kernel) (by decide +kernel) he hpl
  · exact snd_callB (sc_min g.x.calm) hg hm (by decide +kernel) ha (by decide +kernel) (by decide +kernel) he hpl
  · exact snd_callTy sc_tuple hg hm (by decide +kernel) ha (by decide +kernel) (by decide +kernel) he hpl
  · exact snd_callTy sc_list hg hm (by decide +kernel) ha (by decide +kernel) (by decide +kernel) he hpl
  · exact snd_callB (sc_sorted g.x.calm (by have := g.x.room.un; omega)) hg hm (by decide +kernel) ha (by decide +kernel) (by decide +kernel) he hpl
  · exact snd_callB (sc_sum g.x.calm) hg hm (by decide +kernel) ha (by decide +kernel) (by decide +kernel) he hpl
  · exact snd_callB (sc_any g.x.calm) hg hm (by decide +kernel) ha (by decide +kernel) (by decide +kernel) he hpl
  · exact snd_callTy (sc_dict (by have := g.x.room.un; omega) g.x.calm) hg hm (by decide +kernel) ha (by decide +kernel) (by decide +kernel) he hpl
theorem isIsi_eq {es : List Expr} {a : Expr} {t : Str} (h : isIsi es = some (a, t)) : ∃ p, es = [a, .Name t p] := by
  unfold isIsi at h
  split at h
  · cases h; exact ⟨_, rfl⟩
  · cases h
theorem trCallN_ok (g : Good X C k) {f : Expr → Option DE} (hf : ∀ e A, f e = some A → SndE X e A) {x : Str} {as : List Expr} {p pos : Pos} {D : DE} (h : trCallN C f x as pos = some D) : SndE X (.Call (.Name x p) as [] pos) D := by
  unfold trCallN at h
  split at h
  · cases h
  · rename_i e r
    split at h
    · rename_i hx
      split at h
      · rename_i hb
        split at h
        · rename_i a t hi
          split at h
          · rename_i hs
            rw [Bool.and_eq_true] at hs
            split at h
            · rename_i T A hT hA
              cases h
              obtain ⟨p2, hi⟩ := isIsi_eq hi
              rw [hi]
              cases BTy.of_name hT
              obtain ⟨g1, g2⟩ := g.bi hb
              obtain ⟨g3, g4⟩ := g.bi hs.2
              exact snd_isi hx g1 g2 g3 g4 (hf a A hA) (starEach_cons hs.1)
            · cases h
          · cases h
        · cases h
      · cases h
    · split at h
      · rename_i hb
        split at h
        · rename_i a ha
          split at h
          · rename_i hs
            rw [Bool.and_eq_true] at hs
            obtain ⟨A, h1, rfl⟩ := mapS h
            obtain ⟨rfl, p2, pos2, he⟩ := isSet_eq ha
            obtain ⟨g1, g2⟩ := g.bi hb
            obtain ⟨g3, g4⟩ := g.bi hs.1
            rw [he]
            exact snd_sortedSet g.x.calm (by have := g.x.room.un; omega) g1 g2 g3 g4 (snd_acons (starEach_cons hs.2) (hf _ _ h1) snd_anil) (starEach_cons hs.2)
          · cases h
        split at h
        · rename_i a ha
          split at h
          · rename_i hs
            rw [Bool.and_eq_true] at hs
            obtain ⟨A, h1, rfl⟩ := mapS h
            obtain ⟨hx2, p2, pos2, he⟩ := isRngA_eq ha
            obtain ⟨g1, g2⟩ := g.bi hb
            obtain ⟨g3, g4⟩ := g.bi hs.1
            rw [he]
            split
            · rename_i hl
              subst hl
              exact snd_listR g.x.calm g1 g2 g3 g4 (hf _ _ h1) (starEach_cons hs.2) rfl
            · rename_i hl
              rcases hx2 with hx2 | hx2
              · exact absurd hx2 hl
              · subst hx2
                exact snd_tupR g.x.calm g1 g2 g3 g4 (hf _ _ h1) (starEach_cons hs.2) rfl
          · cases h
        split at h
        · rename_i b D' h1 h2
          cases h
          cases BI.of_nm h1
          obtain ⟨g1, g2⟩ := g.bi hb
          have hp := trAs_plain h2
          rw [List.all_cons, Bool.and_eq_true] at hp
          exact bi_ok g g1 g2 (trAs_ok hf h2) (starEach_cons hp.1) (starEach_plain hp.2).1
        · cases h
      · split at h
        · rename_i hb
          rw [Bool.and_eq_true] at hb
          split at h
          · rename_i np S D' h1 h2
            split at h
            · rename_i hnp
              cases h
              obtain ⟨fa, fd, ps, h3, h4, h5, h6⟩ := g.g x np S h1
              have hp := trAs_plain h2
              rw [List.all_cons, Bool.and_eq_true] at hp
              have hd : (x == ("__debug__" : Str)) = false := by
                have := hb.2
                cases q : x == ("__debug__" : Str) with
                | true => rw [q] at this; cases this
                | false => rfl
              exact snd_call h3 g.x.room (g.gl hb.1) h4 h5 h6 hnp (trAs_ok hf h2) (fun env st xs st' z => by rw [trAs_len h2 env st xs st' z]; exact hnp) hd (starEach_cons hp.1) (starEach_plain hp.2).1
            · cases h
          · cases h
        · cases h
theorem disp_parts {f : Expr → Option DE} (hf : ∀ e A, f e = some A → SndE X e A) {pos : Pos} : ∀ {keys : List (Option Expr)} {values : List Expr} {ks : List KK} {D : DA}, constKeys keys = some ks → trAs f values = some D → keys.length = values.length →
    ∃ trs, PPs X pos keys values trs ∧ SndPs X ks trs D ∧ keys.all (·.isSome) = true
  | [], [], ks, D, h1, h2, _ => by
    cases h1
    rw [trAs] at h2
    cases h2
    exact ⟨[], pps_nil, sps_nil, rfl⟩
  | [], _ :: _, _, _, _, _, h => by cases h
  | _ :: _, [], _, _, _, _, h => by cases h
  | k :: keys, e :: values, ks, D, h1, h2, hl => by
    rw [trAs] at h2
    split at h2
    · split at h2
      · rename_i A D' ha hd
        cases h2
        unfold constKeys at h1
        split at h1
        · rename_i z; cases z
        · rename_i x j q r z
          cases z
          obtain ⟨ks', hk, rfl⟩ := mapS h1
          obtain ⟨trs, t1, t2, t3⟩ := disp_parts hf (pos := pos) hk hd (by simpa using hl)
          exact ⟨_, pps_cons (pe_str (X := X)) pe_w t1, sps_cons (hf _ _ ha) t2, by rw [List.all_cons, t3]; rfl⟩
        · rename_i x j q r z
          cases z
          obtain ⟨ks', hk, rfl⟩ := mapS h1
          obtain ⟨trs, t1, t2, t3⟩ := disp_parts hf (pos := pos) hk hd (by simpa using hl)
          exact ⟨_, pps_cons (pe_int (X := X)) pe_w t1, sps_cons (hf _ _ ha) t2, by rw [List.all_cons, t3]; rfl⟩
        · cases h1
      · cases h2
    · cases h2
theorem trDisp_ok {f : Expr → Option DE} (hf : ∀ e A, f e = some A → SndE X e A) {pos : Pos} {keys : List (Option Expr)} {values : List Expr} {D : DE} (h : trDisp f keys values = some D) : SndE X (.Dict keys values pos) D := by
  unfold trDisp at h
  split at h
  · rename_i ks A h1 h2
    split at h
    · rename_i hc
      cases h
      obtain ⟨trs, t1, t2, t3⟩ := disp_parts hf (pos := pos) h1 h2 hc.1
      exact snd_disp t1 t2 t3 hc.1 (fun e => by rw [e] at hc; cases hc.2.1) hc.2.2
    · cases h
  · cases h
theorem attrBase {o : Expr} {name : Str} {env : PySem.Env} (h : notCall o = true) : attributeBase o name env (eval o env) = eval o env := by
  unfold notCall at h
  split at h
  · cases h
  · rename_i hn
    cases o with
    | Call f as ks p =>
      cases f with
      | Name y q =>
        cases as with
        | nil =>
          cases ks with
          | nil => exact absurd rfl (hn y q p)
          | cons _ _ => rfl
        | cons _ _ => rfl
      | _ => rfl
    | _ => rfl
theorem trMeth_ok (g : Good X C k) {f : Expr → Option DE} (hf : ∀ e A, f e = some A → SndE X e A) {o : Expr} {name : Str} {as : List Expr} {ap pos : Pos} {D : DE} {dp : Bool} (h : trMeth dp f o name as ap pos = some D) : SndE X (.Call (.Attribute o name ap) as [] pos) D := by
  unfold trMeth at h
  split at h
  · rename_i hn
    split at h
    · rename_i hc
      rw [Bool.and_eq_true] at hc
      unfold trGet at h
      split at h
      · rename_i e v
        split at h
        · rename_i hs
          rw [Bool.and_eq_true] at hs
          split at h
          · rename_i O K V h1 h2 h3
            cases h
            rw [hn]
            refine snd_get2 (by have := g.x.room.un; omega) (hf _ _ h1) (hf _ _ h2) (hf _ _ h3) ⟨attrBase hc.1, ?_, hc.2, ?_⟩
            · rw [starEach_cons hs.1, starEach_cons hs.2]; rfl
            · rw [starEach_cons hs.1, starEach_cons hs.2]; rfl
          · cases h
        · cases h
      · rename_i e
        split at h
        · rename_i hs
          split at h
          · rename_i O K h1 h2
            cases h
            rw [hn]
            refine snd_get1 (by have := g.x.room.un; omega) (hf _ _ h1) (hf _ _ h2) ⟨attrBase hc.1, ?_, hc.2, ?_⟩
            · rw [starEach_cons hs]; rfl
            · rw [starEach_cons hs]; rfl
          · cases h
        · cases h
      · cases h
    · cases h
  split at h
  · rename_i hn
    split at h
    · rename_i hc
      rw [Bool.and_eq_true] at hc
      unfold trSetd at h
      split at h
      · rename_i e v
        split at h
        · rename_i hs
          rw [Bool.and_eq_true] at hs
          split at h
          · rename_i O K V h1 h2 h3
            cases h
            rw [hn]
            refine snd_setd (by have := g.x.room.un; omega) (hf _ _ h1) (hf _ _ h2) (hf _ _ h3) ⟨attrBase hc.1, ?_, hc.2, ?_⟩
            · rw [starEach_cons hs.1, starEach_cons hs.2]; rfl
            · rw [starEach_cons hs.1, starEach_cons hs.2]; rfl
          · cases h
        · cases h
      · cases h
    · cases h
  split at h
  · rename_i hn
    split at h
    · rename_i hc
      rw [Bool.and_eq_true] at hc
      unfold trM1 at h
      split at h
      · rename_i e
        split at h
        · rename_i hs
          split at h
          · rename_i O K h1 h2
            cases h
            rw [hn]
            refine snd_index (by have := g.x.room.un; omega) (hf _ _ h1) (hf _ _ h2) (attrBase hc.1) ?_ hc.2 (starEach_cons hs)
            rw [starEach_cons hs]; rfl
          · cases h
        · cases h
      · cases h
    · cases h
  split at h
  · rename_i hn
    split at h
    · rename_i hc
      rw [Bool.and_eq_true] at hc
      unfold trM1 at h
      split at h
      · rename_i e
        split at h
        · rename_i hs
          split at h
          · rename_i O K h1 h2
            cases h
            rw [hn.2]
            refine snd_pop1 (by have := g.x.room.un; omega) (hf _ _ h1) (hf _ _ h2) ⟨attrBase hc.1, ?_, hc.2, ?_⟩
            · rw [starEach_cons hs]; rfl
            · rw [starEach_cons hs]; rfl
          · cases h
        · cases h
      · cases h
    · cases h
  split at h
  · rename_i hc
    rw [Bool.and_eq_true] at hc
    split at h
    · rename_i m O D' h1 h2 h3
      cases h
      unfold LM.of at h1
      split at h1
      · rename_i q
        cases h1
        obtain ⟨rfl, hl⟩ := q
        cases as with
        | nil => cases hl
        | cons e r =>
          cases r with
          | cons _ _ => cases hl
          | nil =>
            have hp := trAs_plain h3
            rw [List.all_cons, Bool.and_eq_true] at hp
            refine snd_met PySem.F.slot_list_append PySem.F.type_list_append sm_append (hf _ _ h2) (trAs_ok hf h3) (attrBase hc.1) ?_ hc.2 (starEach_cons hp.1) (starEach_plain hp.2).1
            rw [starEach_cons hp.1]
            rfl
      · split at h1
        · rename_i q
          cases h1
          obtain ⟨rfl, hl⟩ := q
          cases as with
          | cons _ _ => cases hl
          | nil =>
            rw [trAs] at h3; cases h3
            exact snd_met0 PySem.F.slot_list_pop PySem.F.type_list_pop sm_pop (hf _ _ h2) (attrBase hc.1) hc.2
        · split at h1
          · rename_i q
            cases h1
            obtain ⟨rfl, hl⟩ := q
            cases as with
            | cons _ _ => cases hl
            | nil =>
              rw [trAs] at h3; cases h3
              exact snd_met0 PySem.F.slot_list_reverse PySem.F.type_list_reverse sm_reverse (hf _ _ h2) (attrBase hc.1) hc.2
          · split at h1
            · rename_i q
              cases h1
              obtain ⟨rfl, hl⟩ := q
              cases as with
              | nil => cases hl
              | cons e r =>
                cases r with
                | cons _ _ => cases hl
                | nil =>
                  have hp := trAs_plain h3
                  rw [List.all_cons, Bool.and_eq_true] at hp
                  refine snd_met PySem.F.slot_list_pop PySem.F.type_list_pop sm_popAt (hf _ _ h2) (trAs_ok hf h3) (attrBase hc.1) ?_ hc.2 (starEach_cons hp.1) (starEach_plain hp.2).1
                  rw [starEach_cons hp.1]
                  rfl
            · split at h1
              · rename_i q
                cases h1
                obtain ⟨rfl, hl⟩ := q
                cases as with
                | nil => cases hl
                | cons e r =>
                  cases r with
                  | nil => cases hl
                  | cons e2 r =>
                    cases r with
                    | cons _ _ => cases hl
                    | nil =>
                      have hp := trAs_plain h3
                      rw [List.all_cons, List.all_cons, Bool.and_eq_true, Bool.and_eq_true] at hp
                      refine snd_met PySem.F.slot_list_insert PySem.F.type_list_insert sm_insert (hf _ _ h2) (trAs_ok hf h3) (attrBase hc.1) ?_ hc.2 (starEach_cons hp.1) (starEach_plain (by rw [List.all_cons, hp.2.1]; rfl)).1
                      rw [starEach_cons hp.1, starEach_cons hp.2.1]
                      rfl
              · split at h1
                · rename_i q
                  cases h1
                  obtain ⟨rfl, hl⟩ := q
                  cases as with
                  | nil => cases hl
                  | cons e r =>
                    cases r with
                    | cons _ _ => cases hl
                    | nil =>
                      have hp := trAs_plain h3
                      rw [List.all_cons, Bool.and_eq_true] at hp
                      refine snd_met PySem.F.slot_list_extend PySem.F.type_list_extend sm_extend (hf _ _ h2) (trAs_ok hf h3) (attrBase hc.1) ?_ hc.2 (starEach_cons hp.1) (starEach_plain hp.2).1
                      rw [starEach_cons hp.1]
                      rfl
                · cases h1
    · cases h
  · cases h
theorem foldSet {it : Expr} {env : PySem.Env} (h : notSet it = true) : ∀ x, foldedSetIterable it env x = pure x := by
  intro x
  cases it <;> first | rfl | cases h
theorem isOneGen_eq {gs : List Comprehension} {tg it : Expr} {ifs : List Expr} (h : isOneGen gs = some (tg, it, ifs)) : gs = [⟨tg, it, ifs, 0⟩] := by
  unfold isOneGen at h
  split at h
  · split at h
    · rename_i q
      cases h
      rw [q]
    · cases h
  · cases h
theorem trFor_ok (g : Good X C k) {tE : Ctx → Expr → Option DE} {tI : Ctx → Expr → Option DI} (hE : ∀ (Y : Cx) (C' : Ctx) e A, Good Y C' k → tE C' e = some A → SndE Y e A) (hI : ∀ (Y : Cx) (C' : Ctx) tg e A, Good Y C' k → tI C' e = some A → SndI Y tg e A) {tg it : Expr} {D : DI} (h : trFor tE tI C tg it = some D) : SndI X tg it D := by
  unfold trFor at h
  split at h
  · rename_i o ap p hi
    split at h
    · rename_i hc
      rw [Bool.and_eq_true, Bool.and_eq_true] at hc
      obtain ⟨A, h1, rfl⟩ := mapS h
      rw [isItems_eq hi]
      cases tg with
      | Tuple es kk tp => exact si_items (attrBase hc.1.2) hc.2 (hE X C o A g h1)
      | _ => cases hc.1.1
    · cases h
  · split at h
    · rename_i a he
      split at h
      · rename_i hs
        rw [Bool.and_eq_true] at hs
        obtain ⟨A, h1, rfl⟩ := mapS h
        obtain ⟨p, p2, rfl, hb⟩ := isEnum_eq he
        obtain ⟨g1, g2⟩ := g.bi hb
        cases tg with
        | Tuple es kk tp => exact si_enum g1 g2 (by rw [starEach_cons hs.2]; rfl) (hE X C a A g h1)
        | _ => cases hs.1
      · cases h
    · exact hI X C tg it D g h
/-- what a comprehension's pieces are -/
theorem trLc_ok (g : Good X C k) {tE : Ctx → Expr → Option DE} {tT : Ctx → Expr → Option DT} {tI : Ctx → Expr → Option DI} {tG : Ctx → Expr → Option (DG × List Nat)}
    (hE : ∀ (Y : Cx) (C' : Ctx) e A, Good Y C' k → tE C' e = some A → SndE Y e A) (hT : ∀ (Y : Cx) (C' : Ctx) e A, Good Y C' k → tT C' e = some A → SndT Y e A) (hI : ∀ (Y : Cx) (C' : Ctx) tg e A, Good Y C' k → tI C' e = some A → SndI Y tg e A) (hG : ∀ (Y : Cx) (C' : Ctx) e A js, Good Y C' k → tG C' e = some (A, js) → SndG Y e A js)
    {m : Bool} {scope : Scope} {elt tg it : Expr} {ifs : List Expr} {D : DE} (h : trLc C m scope tE tT tI tG elt tg it ifs = some D) :
    ∃ (own : List (Str × Nat)) (I : DI) (G : DG) (js : List Nat) (T : DT) (A : DE), D = dLc m (own.map (·.2)) I G T A ∧ BlkOk X.N X.env.scope scope own ∧ notSet it = true ∧ SndI X tg it I ∧ (Blk X scope fun Y => SndG Y tg G js) ∧ (∀ j ∈ js, j ∈ own.map (·.2)) ∧ Ifs X scope ifs T ∧ (Blk X scope fun Y => SndE Y elt A) := by
  unfold trLc at h
  split at h
  · rename_i hb
    rw [Bool.and_eq_true] at hb
    have hB : BlkOk X.N X.env.scope scope (ownOf C.N scope.names) := by
      rw [g.x.hN, g.x.hsc]; exact blkOk_by hb.1
    split at h
    · rename_i I G js A h1 h2 h3
      split at h
      · rename_i hj
        rw [List.all_eq_true] at hj
        have hjs : ∀ j ∈ js, j ∈ (ownOf C.N scope.names).map (·.2) := fun j z => List.contains_iff_mem.mp (hj j z)
        split at h
        · cases h
          exact ⟨_, I, G, js, tYes, A, rfl, hB, hb.2, trFor_ok g hE hI h1, fun s H B cl fp => hG _ _ tg G js (g.blk scope hB.kind s H B cl fp) h2, hjs, .nil, fun s H B cl fp => hE _ _ elt A (g.blk scope hB.kind s H B cl fp) h3⟩
        · rename_i c
          cases hc : tT (C.blk scope) c with
          | none => rw [hc] at h; cases h
          | some T =>
            rw [hc] at h; cases h
            exact ⟨_, I, G, js, T, A, rfl, hB, hb.2, trFor_ok g hE hI h1, fun s H B cl fp => hG _ _ tg G js (g.blk scope hB.kind s H B cl fp) h2, hjs, .one fun s H B cl fp => hT _ _ c T (g.blk scope hB.kind s H B cl fp) hc, fun s H B cl fp => hE _ _ elt A (g.blk scope hB.kind s H B cl fp) h3⟩
        · cases h
      · cases h
    · cases h
  · cases h
theorem isRng_eq {e : Expr} {as : List Expr} (h : isRng C e = some as) : ∃ p p2, e = .Call (.Name "range" p) as [] p2 ∧ C.isB "range" = true := by
  unfold isRng at h
  split at h
  · split at h
    · rename_i q
      cases h
      obtain ⟨rfl, q⟩ := q
      exact ⟨_, _, rfl, q⟩
    · cases h
  · cases h
theorem assignEach_cons {e : Expr} {es : List Expr} {env : PySem.Env} (h : notStar e = true) : assignEach (e :: es) env = (false, assign e env) :: assignEach es env := by
  cases e <;> first | rfl | cases h
theorem trTuple_ok {f : Expr → Option (DG × List Nat)} (hf : ∀ e A js, f e = some (A, js) → SndG X e A js) : ∀ {es : List Expr} {Gs : List DG} {js : List Nat}, trTuple f es = some (Gs, js) → SndGs X es (gList Gs) js ∧ (assignEach es X.env).length = Gs.length ∧ (assignEach es X.env).findIdx? (·.1) = none
  | [], _, _, h => by
    rw [trTuple] at h; cases h
    exact ⟨sgs_nil, rfl, rfl⟩
  | e :: r, Gs, js, h => by
    rw [trTuple] at h
    split at h
    · rename_i q
      split at h
      · rename_i G j1 Gs' j2 h1 h2
        cases h
        obtain ⟨k1, k2, k3⟩ := trTuple_ok hf h2
        refine ⟨sgs_cons (hf e G j1 h1) k1 ?_, ?_, ?_⟩
        · rw [assignEach_cons q]; rfl
        · rw [assignEach_cons q, List.length_cons, List.length_cons, k2]
        · rw [assignEach_cons q, List.findIdx?_cons, k3]; rfl
      · cases h
    · cases h
theorem tv (D : Option DE) {T : DT} (h : D.map tVal = some T) : ∃ A, D = some A ∧ T = tVal A := by
  cases D with
  | none => cases h
  | some A => cases h; exact ⟨A, rfl, rfl⟩
theorem asg_sub {o i : Expr} {pos : Pos} {env : PySem.Env} {v : Value} (h : notSlice i = true) : assign (.Subscript o i pos) env v = (do let ov ← holding [v] (eval o env); let iv ← holding [v, ov] (eval i env); standAt pos; holding [v, ov, iv] (setItem ov iv v); release [v, ov, iv] []) := by
  rw [assign]
  cases i <;> first | rfl | cases h
/-- all four at once -/
theorem tr_ok : ∀ n : Nat, (∀ (X : Cx) (C : Ctx) e A, Good X C k → trE n C e = some A → SndE X e A) ∧ (∀ (X : Cx) (C : Ctx) e A, Good X C k → trT n C e = some A → SndT X e A) ∧ (∀ (X : Cx) (C : Ctx) tg e A, Good X C k → trI n C e = some A → SndI X tg e A) ∧ (∀ (X : Cx) (C : Ctx) e A js, Good X C k → trG n C e = some (A, js) → SndG X e A js)
  | 0 => by
    refine ⟨fun X C e A g h => ?_, fun X C e A g h => ?_, fun X C tg e A g h => ?_, fun X C e A js g h => ?_⟩
    · exact absurd (show none = some _ from h) (by simp)
    · exact absurd (show none = some _ from h) (by simp)
    · exact absurd (show none = some _ from h) (by simp)
    · exact absurd (show none = some _ from h) (by simp)
  | n + 1 => by
    obtain ⟨iE, iT, iI, iG⟩ := tr_ok n
    refine ⟨fun X C e A g h => ?_, fun X C e A g h => ?_, fun X C tg e A g h => ?_, fun X C e A js g h => ?_⟩
    · have hf : ∀ e A, trE n C e = some A → SndE X e A := fun e A => iE X C e A g
      have h : trE1 (trE n) (trT n) (trI n) (trG n) C e = some _ := h
      unfold trE1 at h
      split at h
      · unfold trName at h
        split at h
        · rename_i hi
          split at h
          · rename_i hv
            rw [Bool.and_eq_true, Bool.and_eq_true, Bool.not_eq_true', Bool.not_eq_true'] at hv
            split at h
            · cases h
              exact snd_frz (by rw [g.x.hN]; exact ixOf_get hi) (g.vis hv.1.1) hv.1.2 hv.2
            · cases h
              exact snd_var (by rw [g.x.hN]; exact ixOf_get hi) (g.vis hv.1.1) hv.1.2 hv.2
          · cases h
        · split at h
          · rename_i hv
            rw [Bool.and_eq_true, Bool.and_eq_true, Bool.not_eq_true'] at hv
            obtain ⟨v, h1, rfl⟩ := mapS h
            obtain ⟨w, u, c1, c2, c3⟩ := g.c _ _ h1
            exact snd_glob (g.gl hv.1.1) c1 c2 c3 hv.1.2
          · cases h
      · unfold trConst at h
        split at h
        · cases h; exact snd_int
        · cases h; exact snd_bl
        · cases h; exact snd_str
        · cases h; exact snd_non
        · cases h
      · split at h
        · rename_i A B q h1 h2 h3
          cases h
          exact snd_bin (opSem_ok h3) (hf _ _ h1) (hf _ _ h2)
        · cases h
      · split at h
        · obtain ⟨A, h1, rfl⟩ := mapS h
          exact snd_un su_neg (hf _ _ h1)
        · obtain ⟨A, h1, rfl⟩ := mapS h
          exact snd_notV (hf _ _ h1)
        · cases h
      · split at h
        · exact trBools_and hf h
        · exact trBools_or hf h
      · exact (trCmp_ok g hf h).1
      · split at h
        · rename_i T A B h1 h2 h3
          cases h
          exact snd_ite (iT X C _ _ g h1) (hf _ _ h2) (hf _ _ h3)
        · cases h
      · obtain ⟨A, h1, rfl⟩ := mapS h
        exact snd_tup (trAs_ok hf h1)
      · obtain ⟨A, h1, rfl⟩ := mapS h
        exact snd_lst (trAs_ok hf h1)
      · split at h
        · split at h
          · cases h; exact snd_dctI
          · cases h; exact snd_dct0
        · exact trDisp_ok hf h
      · exact trSub_ok (by have := g.x.room.un; omega) hf h
      · split at h
        · split at h
          · exact trCallN_ok g hf h
          · exact trMeth_ok g hf h
          · cases h
        · cases h
      · split at h
        · rename_i tg it ifs hg
          cases isOneGen_eq hg
          obtain ⟨own, I, G, js, T, A, rfl, h1, h2, h3, h4, h5, h6, h7⟩ := trLc_ok g iE iT iI iG h
          exact snd_lc g.x.calm (by rw [g.x.hN]; exact g.x.nd) h1 (foldSet h2) h3 h4 h5 h6 h7
        · cases h
      · cases h
    · have hf : ∀ e A, trE n C e = some A → SndE X e A := fun e A => iE X C e A g
      have ht : ∀ e A, trT n C e = some A → SndT X e A := fun e A => iT X C e A g
      have h : trT1 (trE n) (trT n) C e = some _ := h
      unfold trT1 at h
      split at h
      · split at h
        · obtain ⟨A, h1, rfl⟩ := mapS h
          exact tst_not (ht _ _ h1)
        · cases h
      · split at h
        · exact (trTests_and ht h).t
        · exact (trTests_or ht h).t
      · obtain ⟨A, h1, rfl⟩ := mapS h
        exact (trCmp_ok g hf h1).2
      · obtain ⟨A, h1, rfl⟩ := mapS h
        exact tst_tru (by intro _; rfl) (hf _ _ h1)
      · obtain ⟨A, h1, rfl⟩ := mapS h
        exact tst_val (by intro _; rfl) (hf _ _ h1)
      · obtain ⟨A, h1, rfl⟩ := mapS h
        exact tst_val (by intro _; rfl) (hf _ _ h1)
      · cases h
    · have hf : ∀ e A, trE n C e = some A → SndE X e A := fun e A => iE X C e A g
      have h : trI1 (trE n) C e = some _ := h
      unfold trI1 at h
      split at h
      · rename_i a hr
        split at h
        · rename_i hs
          obtain ⟨A, h1, rfl⟩ := mapS h
          obtain ⟨p, p2, rfl, hb⟩ := isRng_eq hr
          obtain ⟨g1, g2⟩ := g.bi hb
          exact si_rng1 g1 g2 (hf _ _ h1) (starEach_cons hs)
        · cases h
      · rename_i a b hr
        split at h
        · rename_i hs
          rw [Bool.and_eq_true] at hs
          split at h
          · rename_i A B h1 h2
            cases h
            obtain ⟨p, p2, rfl, hb⟩ := isRng_eq hr
            obtain ⟨g1, g2⟩ := g.bi hb
            exact si_rng2 g1 g2 (hf _ _ h1) (hf _ _ h2) (by rw [starEach_cons hs.1, starEach_cons hs.2]; rfl) (by rw [starEach_cons hs.2]; rfl)
          · cases h
        · cases h
      · cases h
      · split at h
        · rename_i a ha
          split at h
          · rename_i hs
            obtain ⟨A, h1, rfl⟩ := mapS h
            obtain ⟨p, p2, rfl, hb⟩ := isRev_eq ha
            obtain ⟨g1, g2⟩ := g.bi hb
            exact si_rev g1 g2 (starEach_cons hs) (hf _ _ h1)
          · cases h
        · obtain ⟨A, h1, rfl⟩ := mapS h
          exact si_seq (hf _ _ h1)
    · have hf : ∀ e A, trE n C e = some A → SndE X e A := fun e A => iE X C e A g
      have h : trG1 (trE n) (trG n) C e = some _ := h
      unfold trG1 at h
      split at h
      · split at h
        · rename_i hi
          split at h
          · rename_i hl
            cases h
            obtain ⟨l1, l2⟩ := g.loc hl
            exact sg_name (by rw [g.x.hN]; exact g.x.nd) (by rw [g.x.hN]; exact ixOf_get hi) l1 l2
          · cases h
        · cases h
      · split at h
        · rename_i Gs js' ht
          cases h
          obtain ⟨k1, k2, k3⟩ := trTuple_ok (fun e A js => iG X C e A js g) ht
          exact sg_tup g.x.calm k1 k2 k3 rfl
        · cases h
      · split at h
        · rename_i hs
          split at h
          · rename_i O I h1 h2
            cases h
            exact sg_sub (by have := g.x.room.un; omega) (fun v => asg_sub hs) (hf _ _ h1) (hf _ _ h2)
          · cases h
        · cases h
      · cases h
theorem noSwap {e : Expr} {t : Option Expr} {l : Nat} {env : PySem.Env} (h : notComp e = true) : swapsWith e t l env = pure false := by
  cases e <;> first | rfl | cases h
theorem okAsg_ok {tgs : List Expr} {e : Expr} {env : PySem.Env} (h : okAsg tgs e = true) : ∃ tg, tgs = [tg] ∧ notStar tg = true ∧ (∀ l, swapsWithSole [tg] e l env = pure false) ∧ swappedStores [tg] e env = pure none := by
  unfold okAsg at h
  split at h
  · exact ⟨_, rfl, rfl, (fun l => by unfold swapsWithSole; exact noSwap h), by cases e <;> rfl⟩
  · rw [Bool.and_eq_true] at h
    refine ⟨_, rfl, rfl, (fun l => by unfold swapsWithSole; exact noSwap h.1), ?_⟩
    have h2 := h.2
    cases e <;> first | rfl | cases h2
  · exact ⟨_, rfl, rfl, (fun l => by unfold swapsWithSole; exact noSwap h), by cases e <;> rfl⟩
  · cases h
theorem isLcAsg_eq {pos : Pos} {tgs : List Expr} {e : Expr} {y : Str} {elt tg it : Expr} {ifs : List Expr} {scope : Scope} {p : Pos} (h : isLcAsg C pos tgs e = some (y, elt, tg, it, ifs, scope, p)) :
    ∃ py, tgs = [.Name y py] ∧ e = .ListComp elt [⟨tg, it, ifs, 0⟩] scope p ∧ (py.line == p.line) = true ∧ (scope.names.any fun (n, k) => n == y && (k == .local || k == .cell)) = false := by
  unfold isLcAsg at h
  split at h
  · split at h
    · rename_i hg
      split at h
      · rename_i q
        cases h
        rw [Bool.and_eq_true, Bool.not_eq_true'] at q
        rw [isOneGen_eq hg]
        exact ⟨_, rfl, rfl, q.1, q.2⟩
      · cases h
    · cases h
  · cases h
theorem trS_ok : ∀ n : Nat, (∀ (X : Cx) (C : Ctx) s A, Good X C k → trS n C s = some A → SndS X s A) ∧ (∀ (X : Cx) (C : Ctx) s A, Good X C k → trSs n C s = some A → SndSs X s A)
  | 0 => by
    refine ⟨fun X C e A g h => ?_, fun X C e A g h => ?_⟩
    · exact absurd (show none = some _ from h) (by simp)
    · exact absurd (show none = some _ from h) (by simp)
  | n + 1 => by
    obtain ⟨iE, iT, iI, iG⟩ := tr_ok (k := k) n
    obtain ⟨iS, iSs⟩ := trS_ok n
    refine ⟨fun X C s A g h => ?_, fun X C ss A g h => ?_⟩
    · have h : trS1 (trE n) (trT n) (trI n) (trG n) (trSs n) C s = some _ := h
      unfold trS1 at h
      split at h
      · split at h
        · cases h; exact ss_retN
        · obtain ⟨A, h1, rfl⟩ := mapS h
          exact ss_ret (iE X C _ _ g h1)
      · split at h
        · cases h; exact ss_doc
        · obtain ⟨A, h1, rfl⟩ := mapS h
          exact ss_expr (iE X C _ _ g h1) rfl
        · cases h
      · rename_i tgs e pos
        split at h
        · rename_i y elt tg it ifs scope p hl
          obtain ⟨py, rfl, rfl, q1, q2⟩ := isLcAsg_eq hl
          split at h
          · rename_i A i h1 hi
            split at h
            · rename_i hloc
              cases h
              have hyl : X.env.scope.names.lookup y = some .local := by
                rw [g.x.hsc]
                unfold isLocal at hloc
                split at hloc
                · assumption
                · cases hloc
              obtain ⟨own, I, G, js, T, A, rfl, h1, h2, h3, h4, h5, h6, h7⟩ := trLc_ok g iE iT iI iG h1
              refine ss_setLc g.x.calm (by rw [g.x.hN]; exact g.x.nd) (by rw [g.x.hN]; exact ixOf_get hi) hyl ?_ h1 (foldSet h2) h3 h4 h5 h6 h7
              exact sw_true g.kd hyl q1 q2
            · rename_i hnl
              split at h
              · rename_i hloc
                cases h
                have hyc : X.env.kindOf y = some .cell := by
                  show X.env.scope.names.lookup y = _
                  rw [g.x.hsc]
                  unfold Ctx.loc at hloc
                  unfold isLocal at hnl
                  split at hloc
                  · rename_i e
                    rw [e] at hnl
                    exact absurd rfl hnl
                  · assumption
                  · cases hloc
                obtain ⟨own, I, G, js, T, A, rfl, h1, h2, h3, h4, h5, h6, h7⟩ := trLc_ok g iE iT iI iG h1
                obtain ⟨l1, l2⟩ := g.loc hloc
                refine ss_asg (by rw [assignEach_cons rfl]; rfl) ?_ rfl (snd_lc g.x.calm (by rw [g.x.hN]; exact g.x.nd) h1 (foldSet h2) h3 h4 h5 h6 h7) (sg_name (by rw [g.x.hN]; exact g.x.nd) (by rw [g.x.hN]; exact ixOf_get hi) l1 l2)
                unfold swapsWithSole swapsWith
                show pure (X.env.blockKind == .function && X.env.kindOf y == some .local && _ && _) = pure false
                rw [hyc]
                show pure ((X.env.blockKind == .function && false) && _ && _) = pure false
                rw [Bool.and_false, Bool.false_and, Bool.false_and]
              · cases h
          · cases h
        · split at h
          · rename_i ho
            split at h
            · rename_i A G js h1 h2
              cases h
              obtain ⟨tg, rfl, o1, o2, o3⟩ := okAsg_ok (env := X.env) ho
              exact ss_asg (by rw [assignEach_cons o1]; rfl) (o2 _) o3 (iE X C _ _ g h1) (iG X C _ _ _ g h2)
            · cases h
          · cases h
      · split at h
        · rename_i T A B h1 h2 h3
          cases h
          exact ss_if (iT X C _ _ g h1) (iSs X C _ _ g h2) (iSs X C _ _ g h3)
        · cases h
      · split at h
        · split at h
          · rename_i hs
            split at h
            · rename_i I G js A h1 h2 h3
              cases h
              exact ss_for g.x.xe g.x.calm (trFor_ok g iE iI h1) (iG X C _ _ _ g h2) (iSs X C _ _ g h3) (foldSet hs)
            · cases h
          · cases h
        · cases h
      · split at h
        · split at h
          · rename_i T A h1 h2
            cases h
            exact ss_while g.x.xe (iT X C _ _ g h1) (iSs X C _ _ g h2)
          · cases h
        · cases h
      · cases h; exact ss_pass
      · cases h; exact ss_break
      · cases h; exact ss_cont
      · cases h
    · have h : trSs1 (trS n) (trSs n) C ss = some _ := h
      unfold trSs1 at h
      split at h
      · cases h; exact sss_nil
      · obtain ⟨A, h1, rfl⟩ := mapS h
        exact preF_ok (sss_one (iS X C _ _ g h1))
      · split at h
        · rename_i A B h1 h2
          cases h
          exact preF_ok (sss_cons (iS X C _ _ g h1) (iSs X C _ _ g h2))
        · cases h
end
end DL

/-! DL7: defs of a text by their translation; the law's end. -/
namespace DL
open PySem PySem.Spec PyProof.Rows L2

section
variable (P : Program) (w : World) (K : PySem.W.Frag) (mg : Str → Option Value) (base : Heap)
/-- a def stands and keeps its promise -/
def Ent (k : Nat) (x : Str) (np : Nat) (S : FSem) : Prop := ∃ f fd ps, FnOk P w K mg base CX0 k f fd ps (spOf K np S) ∧ mg x = some (.ref f) ∧ PySem.W.keepIn K (.ref f) = true ∧ Binds K fd ps []
/-- the module's constants stand -/
def CAll (cs : List (Str × PV)) : Prop := ∀ x v, cs.lookup x = some v → ∃ w u, mg x = some u ∧ RelV w u ∧ ∀ F ρ n, RelP K F ρ n v w
def GAll (k : Nat) (G : List (Str × Nat × FSem)) : Prop := ∀ x np S, G.lookup x = some (np, S) → Ent P w K mg base k x np S
end
section
variable {P : Program} {w : World} {K : PySem.W.Frag} {mg : Str → Option Value} {base : Heap}
theorem Ent.mono {j k : Nat} {x : Str} {np : Nat} {S : FSem} (h : Ent P w K mg base j x np S) (q : j ≤ k) : Ent P w K mg base k x np S := by
  obtain ⟨f, fd, ps, h1, h2⟩ := h
  exact ⟨f, fd, ps, h1.mono q, h2⟩
theorem CAll.nil : CAll K mg [] := fun _ _ h => by cases h
theorem GAll.nil {k : Nat} : GAll P w K mg base k [] := fun _ _ _ h => by cases h
theorem GAll.cons {k : Nat} {x : Str} {np : Nat} {S : FSem} {G : List (Str × Nat × FSem)} (h : Ent P w K mg base k x np S) (t : GAll P w K mg base k G) : GAll P w K mg base k ((x, np, S) :: G) := fun y m T q => by
  rw [List.lookup_cons] at q
  split at q
  · rename_i e
    cases q
    have e := eq_of_beq e
    subst e
    exact h
  · exact t y m T q
theorem GAll.mono {j k : Nat} {G : List (Str × Nat × FSem)} (h : GAll P w K mg base j G) (q : j ≤ k) : GAll P w K mg base k G := fun x np S z => (h x np S z).mono q
/-- a def, by its translation -/
theorem fn_tr {x qual : Str} {st : Stmt} {f : Addr} {fd : FuncData} {N ps : List Str} {k n : Nat} {D : DS} {G : List (Str × Nat × FSem)} {bs : List Str} {mu : List (Nat × Nat × Nat)} {cs : List (Str × PV)} (F : Fun K x qual st f fd) (S : FnScope N ps (defScope st))
    (hG : GAll P w K mg base k G) (hb : ∀ n, bs.contains n = true → mg n = none) (hc : CAll K mg cs) (ht : trSs n ⟨N, defScope st, fun _ => true, G, bs, mu, cs⟩ (defBody st) = some D) :
    FnOk P w K mg base CX0 (k + 1) f fd ps (spOf K ps.length (runF N.length ps.length D)) := by
  refine fn_sound F S fun X h1 h2 h3 h4 h5 hx => ?_
  subst h1 h2 h3 h4 h5
  refine (trS_ok (k := k) n).2 X ⟨N, defScope st, fun _ => true, G, bs, mu, cs⟩ _ D ⟨hx, hG, hb, ?_, hc⟩ ht
  rw [hx.hsc]
  exact S.kind
theorem fn_trK {x qual : Str} {st : Stmt} {f : Addr} {fd : FuncData} {N ps : List Str} {k n : Nat} {D : DS} {G : List (Str × Nat × FSem)} {bs : List Str} {mu : List (Nat × Nat × Nat)} {cs : List (Str × PV)} (F : Fun K x qual st f fd) (S : FnScope N ps (defScope st))
    (hG : GAll P w K mg base k G) (hb : ∀ n, bs.contains n = true → mg n = none) (hc : CAll K mg cs) (ht : trSs n ⟨N, defScope st, fun _ => true, G, bs, mu, cs⟩ (defBody st) = some D) :
    FnOk P w K mg base CX0 (k + 1) f fd ps (spOf K ps.length (runK N.length ps.length D)) := by
  refine fn_soundK F S fun X h1 h2 h3 h4 h5 hx => ?_
  subst h1 h2 h3 h4 h5
  refine (trS_ok (k := k) n).2 X ⟨N, defScope st, fun _ => true, G, bs, mu, cs⟩ _ D ⟨hx, hG, hb, ?_, hc⟩ ht
  rw [hx.hsc]
  exact S.kind
/-- what is never asked -/
def noSem : FSem := fun _ _ => none
theorem fn_no {f : Addr} {fd : FuncData} {ps : List Str} : FnOk P w K mg base CX0 0 f fd ps (spOf K ps.length noSem) :=
  ⟨fun vs H Q E h => h.1, fun A outer s H args us vs Q E hr he hb hv h => by obtain ⟨_, F, ρ, st, ar, v, st', _, _, z, _⟩ := h; cases z⟩
/-- the empty store -/
def st0 : Sto := ⟨0, fun _ => none, fun _ _ => rfl, fun _ _ h => by cases h⟩
def spLaw (K : PySem.W.Frag) : Sp := fun vs H Q _ => ∃ (a : Addr) (ns : List Int), vs = [.ref a] ∧ SqL K H a (ns.map V.int) ∧ ns.length ≤ 63 ∧ ∀ H', Q (.bl true) H'
theorem law_end {k : Nat} {f : Addr} {fd : FuncData} {ps : List Str} {S : FSem} (h : FnOk P w K mg base CX0 k f fd ps (spOf K 1 S)) (hl : ∀ ns : List Int, ns.length ≤ 63 → ∃ st, S [.ro (ns.map .int)] st0 = some (.bl true, st)) :
    FnOk P w K mg base CX0 k f fd ps (spLaw K) := by
  refine h.imp fun vs H Q E hs => ?_
  obtain ⟨a, ns, rfl, hS, hlen, q⟩ := hs
  obtain ⟨st, hst⟩ := hl ns hlen
  refine ⟨rfl, H, fun _ => 0, st0, [.ro (ns.map .int)], .bl true, st, ⟨fun _ _ z => z, fun l c z => (by cases z), fun l l' c c' z => (by cases z)⟩, .cons ?_ .nil, hst, fun F' ρ' w' H' p r => ?_⟩
  · rw [RelP]
    exact ⟨a, ns.map V.int, rfl, hS, RelPs.ints ns⟩
  · rw [RelP] at r
    rw [r]
    exact q H'
end
theorem walk {l : PySem.W.OpenLaw} {q : Program} {loose : List Str} {XP : (Str → Option Value) → Heap → Prop} {YP : World → Heap → Prop} {d : DefRec} {K : Params → PySem.W.Frag} {k : Nat} (hk : k ≤ 40) (hn : l.most = some 63) (hdf : d.params.defaults = [])
    (hY : ∀ (w : World) (h : Heap), YP w h → (K w.params).In h)
    (F : ∀ (w : World) (mg : Str → Option Value) (fa : Addr) (h : Heap), (K w.params).In h → h.Ns mainGlobals mg → mg d.name = some (.ref fa) →
      ∃ fd : FuncData, (∀ (s : Shared) (u : Value), BindsTo s fd ⟨[u], []⟩ [("script", u)]) ∧ ∀ base : Heap, (K w.params).In base → base.Ns mainGlobals mg → FnOk l.prog w (K w.params) mg base CX0 k fa fd ["script"] (spLaw (K w.params))) :
    PySem.W.WalkO q loose XP YP l.row.toRowW d [] (fun f vs => PySem.call f vs) :=
  L2.walk_of (n := 63) (k := k) (x := "script") (CX := fun _ => CX0) (sp := fun w => spLaw (K w.params)) hn (by decide) hdf (Room.mono (k := 40) ⟨rfl, by decide, by decide⟩ hk) hY F (fun _ _ a ns hl _ hS => ⟨a, ns, rfl, hS, hl, fun _ => rfl⟩) fun _ _ _ _ _ z => z
end DL

/-! DL8: how what a piece computes is shown. -/
namespace DL
open PySem L2

def wp {α : Type} (m : Option (α × Sto)) (Q : α → Sto → Prop) : Prop := ∃ a s, m = some (a, s) ∧ Q a s
section
variable {α β : Type} {m : Option (α × Sto)} {Q : α → Sto → Prop} {st : Sto} {env : Env}
theorem wp_ret {a : α} (q : Q a st) : wp (some (a, st)) Q := ⟨a, st, rfl, q⟩
theorem wp_eq {a : α} {s : Sto} (h : m = some (a, s)) (q : Q a s) : wp m Q := ⟨a, s, h, q⟩
theorem eq_of_wp {a : α} (h : wp m fun b s => b = a ∧ s = st) : m = some (a, st) := by
  obtain ⟨b, s, e, rfl, rfl⟩ := h
  exact e
theorem wp_mono {R : α → Sto → Prop} (h : wp m R) (k : ∀ a s, R a s → Q a s) : wp m Q := by
  obtain ⟨a, s, e, r⟩ := h
  exact ⟨a, s, e, k a s r⟩
theorem wp_mb {f : β → Sto → Option (α × Sto)} {n : Option (β × Sto)} (h : wp n fun b s => wp (f b s) Q) : wp (mb n f) Q := by
  obtain ⟨b, s, rfl, h⟩ := h
  exact h
end
theorem wp_pos {α : Type} {c : Prop} [Decidable c] {A B : Option (α × Sto)} {Q : α → Sto → Prop} (h : c) (q : wp A Q) : wp (if c then A else B) Q := by rw [if_pos h]; exact q
theorem wp_neg {α : Type} {c : Prop} [Decidable c] {A B : Option (α × Sto)} {Q : α → Sto → Prop} (h : ¬ c) (q : wp B Q) : wp (if c then A else B) Q := by rw [if_neg h]; exact q
theorem wp_if {α : Type} {c : Prop} [Decidable c] {A B : Option (α × Sto)} {Q : α → Sto → Prop} (h : c → wp A Q) (q : ¬ c → wp B Q) : wp (if c then A else B) Q := by
  by_cases e : c
  · rw [if_pos e]; exact h e
  · rw [if_neg e]; exact q e
theorem wp_mul {a b : Int} {st : Sto} {Q : PV → Sto → Prop} (h : okMul a b = true) (q : Q (.int (a * b)) st) : wp (opMul (.int a) (.int b) st) Q := by
  show wp (if okMul a b then some (PV.int (a * b), st) else if okMulX a b then some (PV.int (a * b), st) else none) Q
  exact wp_pos h (wp_ret q)
theorem wp_mulX {a b : Int} {st : Sto} {Q : PV → Sto → Prop} (h : okMulX a b = true) (q : Q (.int (a * b)) st) : wp (opMul (.int a) (.int b) st) Q := by
  show wp (if okMul a b then some (PV.int (a * b), st) else if okMulX a b then some (PV.int (a * b), st) else none) Q
  exact wp_if (fun _ => wp_ret q) fun _ => wp_pos h (wp_ret q)
theorem wp_mod {a b : Int} {st : Sto} {Q : PV → Sto → Prop} (h : okMod b = true) (q : Q (.int (a % b)) st) : wp (opMod (.int a) (.int b) st) Q := by
  show wp (if okMod b then some (PV.int (a % b), st) else none) Q
  exact wp_pos h (wp_ret q)
theorem wp_div {a b : Int} {st : Sto} {Q : PV → Sto → Prop} (h : okDiv b = true) (q : Q (.int (a / b)) st) : wp (opDiv (.int a) (.int b) st) Q := by
  show wp (if okDiv b then some (PV.int (a / b), st) else none) Q
  exact wp_pos h (wp_ret q)
theorem wp_pow {a b : Int} {st : Sto} {Q : PV → Sto → Prop} (h : okPow a b = true) (q : Q (.int (a ^ b.toNat)) st) : wp (opPow (.int a) (.int b) st) Q := by
  show wp (if okPow a b then some (PV.int (a ^ b.toNat), st) else none) Q
  exact wp_pos h (wp_ret q)
/-- what is at a place -/
theorem loc_seq {p : Nat} {st : Sto} {xs : List PV} (h : st.cs p = some (.lst xs)) : seqOf st (.loc p) = some xs := by
  show (match st.cs p with | some (.lst xs) => some xs | _ => none) = _
  rw [h]
theorem loc_dct {p : Nat} {st : Sto} {xs : List PV} (h : st.cs p = some (.lst xs)) : dctOf st (.loc p) = none := by
  show (match st.cs p with | some (.dct ks vs _) => some (ks, vs) | _ => none) = none
  rw [h]
theorem dct_of {p : Nat} {st : Sto} {ks vs : List PV} {t : Nat} (h : st.cs p = some (.dct ks vs t)) : dctOf st (.loc p) = some (ks, vs) := by
  show (match st.cs p with | some (.dct ks vs _) => some (ks, vs) | _ => none) = _
  rw [h]
theorem loc_dki {p : Nat} {st : Sto} {xs : List PV} (h : st.cs p = some (.lst xs)) : dkiOf st (.loc p) = none := by
  show (match st.cs p with | some (.dki ks vs) => some (ks, vs) | _ => none) = none
  rw [h]
theorem dct_dki {p : Nat} {st : Sto} {ks vs : List PV} {t : Nat} (h : st.cs p = some (.dct ks vs t)) : dkiOf st (.loc p) = none := by
  show (match st.cs p with | some (.dki ks vs) => some (ks, vs) | _ => none) = none
  rw [h]
theorem dki_of {p : Nat} {st : Sto} {ks : List KK} {vs : List PV} (h : st.cs p = some (.dki ks vs)) : dkiOf st (.loc p) = some (ks, vs) := by
  show (match st.cs p with | some (.dki ks vs) => some (ks, vs) | _ => none) = _
  rw [h]
theorem len_loc {l : Nat} {st : Sto} : bLen [.loc l] st = (match seqOf st (.loc l) with | some xs => some (.int xs.length, st) | none => match dctOf st (.loc l) with | some (ks, _) => some (.int ks.length, st) | none => none) := rfl
theorem loc_len {p : Nat} {st : Sto} {xs : List PV} (h : st.cs p = some (.lst xs)) : bLen [.loc p] st = some (.int xs.length, st) := by
  rw [len_loc, loc_seq h]
theorem loc_ix {p : Nat} {st : Sto} {xs : List PV} {i : Int} {v : PV} (h : st.cs p = some (.lst xs)) (hi : atI xs i = some v) : opIx (.loc p) (.int i) st = some (v, st) := by
  unfold opIx
  rw [loc_dki h, loc_dct h]
  dsimp only
  show (match seqOf st (.loc p) with | some xs => (atI xs i).map fun v => (v, st) | none => none) = _
  rw [loc_seq h]
  show (atI xs i).map (fun v => (v, st)) = _
  rw [hi]; rfl
theorem seq_len {v : PV} {st : Sto} {xs : List PV} (h : seqOf st v = some xs) : bLen [v] st = some (.int xs.length, st) := by
  cases v with
  | loc l =>
    rw [len_loc, h]
  | tup ys => cases h; rfl
  | lst ys => cases h; rfl
  | ro ys => cases h; rfl
  | _ => cases h
theorem seq_ix {v : PV} {st : Sto} {xs : List PV} {i : Int} {x : PV} (h : seqOf st v = some xs) (hi : atI xs i = some x) : opIx v (.int i) st = some (x, st) := by
  have e1 : dctOf st v = none := by
    cases v with
    | loc l =>
      have h : (match st.cs l with | some (.lst xs) => some xs | _ => none) = some xs := h
      show (match st.cs l with | some (.dct ks vs _) => some (ks, vs) | _ => none) = none
      split at h
      · rename_i hl; rw [hl]
      · cases h
    | dct _ _ => cases h
    | _ => rfl
  have e0 : dkiOf st v = none := by
    cases v with
    | loc l =>
      have h : (match st.cs l with | some (.lst xs) => some xs | _ => none) = some xs := h
      show (match st.cs l with | some (.dki ks vs) => some (ks, vs) | _ => none) = none
      split at h
      · rename_i hl; rw [hl]
      · cases h
    | dki _ _ => cases h
    | _ => rfl
  unfold opIx
  rw [e0, e1]
  dsimp only
  show (match seqOf st v with | some xs => (atI xs i).map fun v => (v, st) | none => none) = _
  rw [h]
  show (atI xs i).map (fun v => (v, st)) = _
  rw [hi]; rfl
theorem loc_asL {p : Nat} {st : Sto} {xs : List PV} (h : st.cs p = some (.lst xs)) : asL (.loc p) st = some (p, st) := by
  show (match st.cs p with | some (.lst _) => some (p, st) | _ => none) = _
  rw [h]
theorem loc_pop {p : Nat} {st : Sto} {xs : List PV} {v : PV} (h : st.cs p = some (.lst xs)) (hv : xs[xs.length - 1]? = some v) : mPop p [] st = some (v, st.set p (.lst xs.dropLast)) := by
  show (match st.cs p with | some (.lst xs) => (match xs[xs.length - 1]? with | some y => some (y, st.set p (.lst xs.dropLast)) | none => none) | _ => none) = _
  rw [h]
  show (match xs[xs.length - 1]? with | some y => some (y, st.set p (.lst xs.dropLast)) | none => none) = _
  rw [hv]
theorem loc_append {p : Nat} {st : Sto} {xs : List PV} {v : PV} (h : st.cs p = some (.lst xs)) (hz : xs.length < sizeLine) (hv : v.lb st.nxt = true) : mAppend p [v] st = some (.non, st.set p (.lst (xs ++ [v]))) := by
  show (match st.cs p with | some (.lst xs) => (if xs.length < sizeLine && v.lb st.nxt then some (PV.non, st.set p (.lst (xs ++ [v]))) else none) | _ => none) = _
  rw [h]
  show (if xs.length < sizeLine && v.lb st.nxt then some (PV.non, st.set p (.lst (xs ++ [v]))) else none) = _
  rw [hv, decide_eq_true hz]; rfl
theorem loc_reverse {p : Nat} {st : Sto} {xs : List PV} (h : st.cs p = some (.lst xs)) : mReverse p [] st = some (.non, st.set p (.lst xs.reverse)) := by
  show (match st.cs p with | some (.lst xs) => some (PV.non, st.set p (.lst xs.reverse)) | _ => none) = _
  rw [h]
theorem loc_set {p : Nat} {st : Sto} {xs : List PV} {i : Int} {j : Nat} {v : PV} (h : st.cs p = some (.lst xs)) (hj : ixN xs.length i = some j) (hv : v.lb st.nxt = true) : setL (.loc p) (.int i) v st = some (st.set p (.lst (xs.set j v))) := by
  rw [show setL (.loc p) (.int i) v st = (match st.cs p with | some (.lst xs) => (match ixN xs.length i with | some j => (if v.lb st.nxt then some (st.set p (.lst (xs.set j v))) else none) | none => none) | some (.dct ks vs t) => (if goodK ks (.int i) && v.lb st.nxt && decide (ks.length < sizeLine) then some (st.set p (.dct (dput ks vs (.int i) v).1 (dput ks vs (.int i) v).2 (t + 1))) else none) | some (.dki ks vs) => (if v.lb st.nxt && okLen (ks.length + 1) then some (st.set p (.dki (iput ks vs (.inl i) v).1 (iput ks vs (.inl i) v).2)) else none) | none => none) from rfl, h]
  show (match ixN xs.length i with | some j => (if v.lb st.nxt then some (st.set p (.lst (xs.set j v))) else none) | none => none) = _
  rw [hj]
  show (if v.lb st.nxt then some (st.set p (.lst (xs.set j v))) else none) = _
  rw [hv, if_pos rfl]
/-! dicts at a place -/
section
variable {p : Nat} {st : Sto} {ks vs : List PV} {k v : PV} {t : Nat}
theorem dct_ix (h : st.cs p = some (.dct ks vs t)) (hg : goodK ks k = true) (hv : dlook ks vs k = some v) : opIx (.loc p) k st = some (v, st) := by
  unfold opIx
  rw [dct_dki h, dct_of h]
  dsimp only
  show (if goodK ks k then (dlook ks vs k).map fun v => (v, st) else none) = _
  rw [if_pos hg, hv]; rfl
theorem dct_set (h : st.cs p = some (.dct ks vs t)) (hg : goodK ks k = true) (hv : v.lb st.nxt = true) (hz : ks.length < sizeLine) : setL (.loc p) k v st = some (st.set p (.dct (dput ks vs k v).1 (dput ks vs k v).2 (t + 1))) := by
  unfold setL
  dsimp only
  rw [h]
  show (if goodK ks k && v.lb st.nxt && decide (ks.length < sizeLine) then some (st.set p (.dct (dput ks vs k v).1 (dput ks vs k v).2 (t + 1))) else none) = _
  rw [hg, hv, decide_eq_true hz]; rfl
theorem dct_in {neg : Bool} (h : st.cs p = some (.dct ks vs t)) (hg : goodK ks k = true) : cmpIn neg k (.loc p) st = some (.bl ((dlook ks vs k).isSome != neg), st) := by
  unfold cmpIn
  rw [dct_dki h, dct_of h]
  dsimp only
  show (if goodK ks k then some (PV.bl ((dlook ks vs k).isSome != neg), st) else none) = _
  rw [if_pos hg]
theorem dct_get {o e f : DE} {env : Env} {s0 s1 s2 : Sto} {z : PV} (h0 : o env s0 = some (.loc p, s1)) (h1 : s1.cs p = some (.dct ks vs t)) (h2 : e env s1 = some (k, s2)) (h3 : f env s2 = some (z, st)) (h : st.cs p = some (.dct ks vs t)) (hg : goodK ks k = true) : dGet2 o e f env s0 = some ((dlook ks vs k).getD z, st) := by
  unfold dGet2
  rw [h0, mb_some, dct_of h1]
  show mb (e env s1) _ = _
  rw [h2, mb_some, h3, mb_some, dct_of h]
  show (if goodK ks k then some ((dlook ks vs k).getD z, st) else none) = _
  rw [if_pos hg]
theorem dct_sorted {m : Bool} (h : st.cs p = some (.dct ks vs t)) : bSorted m [.loc p] st = sortGo m ks st := by
  have e : lstOf st (.loc p) = none := by
    show (match st.cs p with | some (.lst xs) => some xs | _ => none) = _
    rw [h]
  show (match lstOf st (.loc p) with | some xs => sortGo m xs st | none => match dctOf st (.loc p) with | some (ks, _) => sortGo m ks st | none => none) = _
  rw [e, dct_of h]
end
/-! dicts of ints at a place -/
section
variable {p : Nat} {st : Sto} {ks : List KK} {vs : List PV} {v y : PV} {i : KK}
theorem dki_ix (h : st.cs p = some (.dki ks vs)) (hy : keyP y = some i) (hv : ilook ks vs i = some v) : opIx (.loc p) y st = some (v, st) := by
  unfold opIx
  rw [dki_of h]
  dsimp only
  rw [hy]
  show (ilook ks vs i).map (fun v => (v, st)) = _
  rw [hv]; rfl
theorem dki_set (h : st.cs p = some (.dki ks vs)) (hy : keyP y = some i) (hv : v.lb st.nxt = true) (hz : ks.length < sizeLine) : setL (.loc p) y v st = some (st.set p (.dki (iput ks vs i v).1 (iput ks vs i v).2)) := by
  unfold setL
  dsimp only
  rw [h]
  dsimp only
  rw [hy]
  show (if v.lb st.nxt && okLen (ks.length + 1) then some (st.set p (.dki (iput ks vs i v).1 (iput ks vs i v).2)) else none) = _
  rw [hv, okLen_iff.mpr (by omega)]; rfl
theorem dki_in {neg : Bool} (h : st.cs p = some (.dki ks vs)) (hy : keyP y = some i) : cmpIn neg y (.loc p) st = some (.bl ((ilook ks vs i).isSome != neg), st) := by
  unfold cmpIn
  rw [dki_of h]
  dsimp only
  rw [hy]
theorem dki_get {o e : DE} {env : Env} {s0 s1 : Sto} {z : List KK × List PV} (h0 : o env s0 = some (.loc p, s1)) (h1 : dkiOf s1 (.loc p) = some z) (h2 : e env s1 = some (y, st)) (hy : keyP y = some i) (h : st.cs p = some (.dki ks vs)) : dGet1 o e env s0 = some ((ilook ks vs i).getD .non, st) := by
  unfold dGet1
  rw [h0, mb_some, h1]
  show mb (e env s1) _ = _
  rw [h2, mb_some]
  try dsimp only
  rw [hy]
  show (match dkiOf st (.loc p) with | some (ks, vs) => some ((ilook ks vs i).getD PV.non, st) | none => none) = _
  rw [dki_of h]
end
/-- a loop -/
theorem forGo_wp {its : Its} {g : DG} {d : DS} (I : Nat → Env → Sto → Prop) (Q : Fl → Sto → Prop)
    (hs : ∀ (k : Nat) x env st, its.items[k]? = some x → I k env st → its.ok st ∧ wp (g x env st) fun e1 s1 => wp (d e1 s1) fun f s2 => match f with
      | .nx e => I (k + 1) e s2
      | .ct e => I (k + 1) e s2
      | .bk e => Q (.nx e) s2
      | .rt v => Q (.rt v) s2) (hd : ∀ env st, I its.items.length env st → its.ok st ∧ Q (.nx env) st) {env : Env} {st : Sto} (h0 : I 0 env st) : wp (forGo its g d its.items env st) Q := by
  have key : ∀ (m k : Nat) (env : Env) (st : Sto), k + m = its.items.length → I k env st → wp (forGo its g d (its.items.drop k) env st) Q := by
    intro m
    induction m with
    | zero =>
      intro k env st e h
      have e : k = its.items.length := by omega
      subst e
      obtain ⟨ok, q⟩ := hd env st h
      rw [List.drop_length, forGo, if_pos ok]
      exact wp_ret q
    | succ m ih =>
      intro k env st e h
      have hk : k < its.items.length := by omega
      obtain ⟨ok, t⟩ := hs k its.items[k] env st (List.getElem?_eq_getElem hk) h
      rw [List.drop_eq_getElem_cons hk, forGo, if_pos ok]
      refine wp_mb (wp_mono t fun e1 s1 t => wp_mb (wp_mono t fun f s2 t => ?_))
      cases f with
      | nx e => exact ih (k + 1) e s2 (by omega) t
      | ct e => exact ih (k + 1) e s2 (by omega) t
      | bk e => exact wp_ret t
      | rt v => exact wp_ret t
  have := key its.items.length 0 env st (by omega) h0
  rw [List.drop_zero] at this
  exact this
/-- a comprehension -/
theorem lcGo_wp {its : Its} {g : DG} {t : DT} {e : DE} {env : Env} (I : Nat → List PV → Sto → Prop) (Q : List PV → Sto → Prop)
    (hs : ∀ (k : Nat) x done st, its.items[k]? = some x → I k done st → its.ok st ∧ wp (g x env st) fun e1 s1 => wp (t e1 s1) fun b s2 => if b then wp (e e1 s2) fun y s3 => I (k + 1) (done ++ [y]) s3 else I (k + 1) done s2)
    (hd : ∀ done st, I its.items.length done st → its.ok st ∧ Q done st) {st : Sto} (h0 : I 0 [] st) : wp (lcGo its g t e env its.items st) Q := by
  have key : ∀ (m k : Nat) (done : List PV) (st : Sto), k + m = its.items.length → I k done st → wp (lcGo its g t e env (its.items.drop k) st) fun ys s => Q (done ++ ys) s := by
    intro m
    induction m with
    | zero =>
      intro k done st e h
      have e : k = its.items.length := by omega
      subst e
      obtain ⟨ok, q⟩ := hd done st h
      rw [List.drop_length, lcGo, if_pos ok]
      exact wp_ret (by rw [List.append_nil]; exact q)
    | succ m ih =>
      intro k done st e h
      have hk : k < its.items.length := by omega
      obtain ⟨ok, t⟩ := hs k its.items[k] done st (List.getElem?_eq_getElem hk) h
      rw [List.drop_eq_getElem_cons hk, lcGo, if_pos ok]
      refine wp_mb (wp_mono t fun e1 s1 t => wp_mb (wp_mono t fun b s2 t => ?_))
      cases b with
      | false =>
        rw [if_neg (by decide)] at t ⊢
        exact ih (k + 1) done s2 (by omega) t
      | true =>
        rw [if_pos rfl] at t ⊢
        refine wp_mb (wp_mono t fun y s3 t => wp_mb (wp_mono (ih (k + 1) _ s3 (by omega) t) fun ys s4 q => wp_ret ?_))
        rw [List.append_assoc] at q
        exact q
  have := key its.items.length 0 [] st (by omega) h0
  rw [List.drop_zero] at this
  exact wp_mono this fun ys s q => q
/-- a comprehension that changes nothing and has no test -/
theorem lcGo_map {its : Its} {g : DG} {e : DE} {env : Env} {st : Sto} (f : PV → PV) (ok : its.ok st) (h : ∀ x ∈ its.items, ∃ e1, g x env st = some (e1, st) ∧ e e1 st = some (f x, st)) : lcGo its g tYes e env its.items st = some (its.items.map f, st) := by
  have key : ∀ xs : List PV, (∀ x ∈ xs, x ∈ its.items) → lcGo its g tYes e env xs st = some (xs.map f, st) := by
    intro xs
    induction xs with
    | nil => intro _; rw [lcGo, if_pos ok]; rfl
    | cons x r ih =>
      intro hx
      obtain ⟨e1, h1, h2⟩ := h x (hx x List.mem_cons_self)
      rw [lcGo, if_pos ok, h1, mb_some]
      show mb (some (true, st)) _ = _
      rw [mb_some, if_pos rfl, h2, mb_some, ih fun y hy => hx y (List.mem_cons_of_mem _ hy), mb_some]
      rfl
  exact key its.items fun _ z => z
/-- .. with a test -/
theorem lcGo_filter {its : Its} {g : DG} {t : DT} {e : DE} {env : Env} {st : Sto} (p : PV → Bool) (f : PV → PV) (ok : its.ok st) (h : ∀ x ∈ its.items, ∃ e1, g x env st = some (e1, st) ∧ t e1 st = some (p x, st) ∧ (p x = true → e e1 st = some (f x, st))) : lcGo its g t e env its.items st = some ((its.items.filter p).map f, st) := by
  have key : ∀ xs : List PV, (∀ x ∈ xs, x ∈ its.items) → lcGo its g t e env xs st = some ((xs.filter p).map f, st) := by
    intro xs
    induction xs with
    | nil => intro _; rw [lcGo, if_pos ok]; rfl
    | cons x r ih =>
      intro hx
      obtain ⟨e1, h1, h2, h3⟩ := h x (hx x List.mem_cons_self)
      rw [lcGo, if_pos ok, h1, mb_some, h2, mb_some, List.filter_cons]
      cases hp : p x with
      | true =>
        rw [if_pos rfl, if_pos rfl, h3 hp, mb_some, ih fun y hy => hx y (List.mem_cons_of_mem _ hy), mb_some]
        rfl
      | false =>
        rw [if_neg (by decide), if_neg (by decide)]
        exact ih fun y hy => hx y (List.mem_cons_of_mem _ hy)
  exact key its.items fun _ z => z
theorem Its.ok_none {xs : List PV} {st : Sto} : (Its.mk xs none).ok st := trivial
theorem Its.ok_some {xs : List PV} {st : Sto} {l : Nat} {c : Cell} (h : st.cs l = some c) : (Its.mk xs (some (l, c))).ok st := h

/-- .. over a range, item by item -/
theorem lc_rng {n : Nat} {g : DG} {e : DE} {env : Env} {st : Sto} (vs : List PV) (hn : vs.length = n) (h : ∀ (k : Nat), k < n → ∃ e1 v, g (.int ((0 : Int) + (k : Int))) env st = some (e1, st) ∧ vs[k]? = some v ∧ e e1 st = some (v, st)) : lcGo ⟨rng 0 (n : Int), none⟩ g tYes e env (rng 0 (n : Int)) st = some (vs, st) := by
  have e0 : rng 0 (n : Int) = (List.range n).map fun (k : Nat) => PV.int ((0 : Int) + (k : Int)) := by
    unfold rng
    rw [Int.sub_zero, Int.toNat_natCast]
  let f : PV → PV := fun x => match x with
    | .int i => (vs[i.toNat]?).getD .non
    | _ => .non
  have := lcGo_map (its := ⟨rng 0 (n : Int), none⟩) (g := g) (e := e) (env := env) (st := st) f trivial (fun x hx => by
    have hx : x ∈ rng 0 (n : Int) := hx
    rw [e0, List.mem_map] at hx
    obtain ⟨k, hk, rfl⟩ := hx
    obtain ⟨e1, v, h1, h2, h3⟩ := h k (List.mem_range.mp hk)
    refine ⟨e1, h1, ?_⟩
    rw [h3]
    show some (v, st) = some ((vs[((0 : Int) + (k : Int)).toNat]?).getD .non, st)
    rw [Int.zero_add, Int.toNat_natCast, h2]
    rfl)
  have e1 : (rng 0 (n : Int)).map f = vs := by
    rw [e0, List.map_map]
    apply List.ext_getElem?
    intro k
    rw [List.getElem?_map]
    by_cases hk : k < n
    · rw [List.getElem?_range hk]
      show some ((vs[((0 : Int) + (k : Int)).toNat]?).getD .non) = _
      rw [Int.zero_add, Int.toNat_natCast, List.getElem?_eq_getElem (by omega)]
      rfl
    · rw [List.getElem?_eq_none (by rw [List.length_range]; omega), List.getElem?_eq_none (by omega)]
      rfl
  rw [e1] at this
  exact this
/-- .. over items -/
theorem lc_items {its : Its} {g : DG} {e : DE} {env : Env} {st : Sto} (vs : List PV) (ok : its.ok st) (hn : vs.length = its.items.length) (h : ∀ (k : Nat) x, its.items[k]? = some x → ∃ e1 v, g x env st = some (e1, st) ∧ vs[k]? = some v ∧ e e1 st = some (v, st)) : lcGo its g tYes e env its.items st = some (vs, st) := by
  obtain ⟨ys, s, h1, h2, h3⟩ := lcGo_wp (its := its) (g := g) (t := tYes) (e := e) (env := env) (fun k done s => s = st ∧ done = vs.take k) (fun ys s => s = st ∧ ys = vs) (fun k x done s hx hI => by
    obtain ⟨rfl, rfl⟩ := hI
    obtain ⟨e1, v, h1, h2, h3⟩ := h k x hx
    refine ⟨ok, wp_eq h1 (wp_eq rfl ?_)⟩
    rw [if_pos rfl]
    exact wp_eq h3 ⟨rfl, by rw [List.take_add_one, h2]; rfl⟩) (fun done s hI => by
    obtain ⟨rfl, rfl⟩ := hI
    exact ⟨ok, rfl, by rw [← hn, List.take_length]⟩) (st := st) ⟨rfl, rfl⟩
  rw [h1, h2, h3]

/-! ### values of one kind -/
def tT (a : List Int) : PV := .tup (a.map .int)
theorem tT_lb {n : Nat} {a : List Int} : (tT a).lb n = true := by
  unfold tT
  rw [PV.lb]
  exact lbs_map (fun i => lb_int n i) a
theorem res_of {b : Nat} {cs : Nat → Option Cell} {v : PV} (h : v.lb b = true) : v.res b cs = some v := PV.res_lb h
/-- a def hands back a value without places -/
theorem fin_val {b : Nat} {v : PV} {st : Sto} (h : v.lb b = true) : fin b v st = some (v, st.restr b) := by
  unfold fin
  split
  · rename_i l
    rw [PV.lb, decide_eq_true_eq] at h
    rw [if_pos h]
  · rw [PV.res_lb h]; rfl
theorem fin_loc {b l : Nat} {st : Sto} {c : Cell} (hb : b ≤ l) (h : st.cs l = some c) (hc : c.lb b = true) : fin b (.loc l) st = some (.loc b, (st.restr b).alloc c) := by
  show (if l < b then some (PV.loc l, st.restr b) else match st.cs l with | some c => (if c.lb b then some (PV.loc b, (st.restr b).alloc c) else none) | none => none) = _
  rw [if_neg (by omega), h]
  show (if c.lb b then some (PV.loc b, (st.restr b).alloc c) else none) = _
  rw [if_pos hc]
theorem settle_val {b : Nat} {v : PV} {st : Sto} (h : v.lb b = true) : settle b v st = some (v, st.restr b) := by
  unfold settle
  rw [PV.res_lb h]; rfl
/-- behind a call: a value without places is kept, the rest dropped -/
theorem wp_set {b : Nat} {v : PV} {s : Sto} {X : Option (PV × Sto)} {Q : PV → Sto → Prop} (hb : b = s.nxt) (h : v.lb b = true) (q : Q v s) : wp (if false = true then X else settle b v s) Q := by
  subst hb
  rw [if_neg (by decide), settle_val h, Sto.restr_self]
  exact wp_ret q
theorem wp_runF {n np : Nat} {d : DS} {args : List PV} {st : Sto} {Q : PV → Sto → Prop} (hl : args.length = np)
    (h : wp (d (args.map some ++ List.replicate (n - args.length) none) st) fun f s => match f with
      | .rt v => wp (fin st.nxt v s) Q
      | .nx _ => wp (fin st.nxt .non s) Q
      | _ => False) : wp (runF n np d args st) Q := by
  obtain ⟨f, s, e, h⟩ := h
  unfold runF
  rw [if_pos hl, e]
  cases f with
  | rt v => exact h
  | nx e => exact h
  | bk e => exact h.elim
  | ct e => exact h.elim
/-- .. and changes nothing -/
theorem runF_eq {n np : Nat} {d : DS} {args : List PV} {st : Sto} {v : PV} (hl : args.length = np) (hv : v.lb st.nxt = true)
    (h : wp (d (args.map some ++ List.replicate (n - args.length) none) st) fun f s => f = .rt v ∧ s = st) : runF n np d args st = some (v, st) := by
  obtain ⟨f, s, e, rfl, rfl⟩ := h
  unfold runF
  rw [if_pos hl, e]
  show fin s.nxt v s = _
  rw [fin_val hv, Sto.restr_self]
end DL

namespace DL
open PySem PySem.Spec PyProof.Rows L2
/-! ### the text by places -/
def top (i : Nat) : Stmt := PySem.Challenge.pw_deltastead_k28_whole_joins_kept_up.main.body.getD i (.Pass ⟨0, 0, 0, 0⟩)

/-! lub : slots 0 a, 1 b, 2 i -/
abbrev s_lub : Stmt := top 1
noncomputable def D_lub : DS :=
    (sRet (dApp (bTuple) (aCons (dLc false [2] (iRng1 (dApp (bLen) (aCons (dVar 0) aNil))) (gName 2) tYes (dApp (bMax) (aCons (dBin opIx (dVar 0) (dVar 2)) (aCons (dBin opIx (dVar 1) (dVar 2)) aNil)))) aNil)))
@[irreducible] noncomputable def f_lub : FSem := runF 3 2 D_lub

/-! tidy : slots 0 changes, 1 counts, 2 record, 3 time, 4 count, 5 key -/
abbrev s_tidy : Stmt := top 3
noncomputable def D_tidy : DS :=
    (sSeq (sAsg (dDct0 true) (gName 1))
    (sSeq (sFor (iSeq (dVar 0)) (gTup [(gName 2), (gName 3), (gName 4)])
    (sAsg (dBin (opAdd false) (dGet2 (dVar 1) (dTup (aCons (dVar 3) (aCons (dVar 2) aNil))) (dCst (.int 0))) (dVar 4)) (gSub (dVar 1) (dTup (aCons (dVar 3) (aCons (dVar 2) aNil))))))
    (sRet (dLc true [5] (iSeq (dApp (bSorted false) (aCons (dVar 1) aNil))) (gName 5) (tVal (dBin (cmpEq true) (dBin opIx (dVar 1) (dVar 5)) (dCst (.int 0)))) (dTup (aCons (dBin opIx (dVar 5) (dCst (.int 1))) (aCons (dBin opIx (dVar 5) (dCst (.int 0))) (aCons (dBin opIx (dVar 1) (dVar 5)) aNil))))))))
@[irreducible] noncomputable def f_tidy : FSem := runF 6 1 D_tidy

/-! key_of : slots 0 record, 1 columns, 2 column -/
abbrev s_key_of : Stmt := top 5
noncomputable def D_key_of : DS :=
    (sRet (dApp (bTuple) (aCons (dLc false [2] (iSeq (dVar 1)) (gName 2) tYes (dBin opIx (dVar 0) (dVar 2))) aNil)))
@[irreducible] noncomputable def f_key_of : FSem := runF 3 2 D_key_of

/-! join_record : slots 0 terms, 1 left, 2 right, 3 fields, 4 side, 5 number -/
abbrev s_join_record : Stmt := top 6
noncomputable def D_join_record : DS :=
    (sSeq (sAsg (dLst true aNil) (gName 3))
    (sSeq (sFor (iSeq (dVar 0)) (gTup [(gName 4), (gName 5)])
    (sIf (tVal (dBin (cmpEq false) (dVar 4) (dCst (.str "left"))))
      (sExpr (dMetL mAppend (dVar 3) (aCons (dBin opIx (dVar 1) (dVar 5)) aNil)))
      (sIf (tVal (dBin (cmpEq false) (dVar 4) (dCst (.str "right"))))
        (sExpr (dMetL mAppend (dVar 3) (aCons (dBin opIx (dVar 2) (dVar 5)) aNil)))
        (sExpr (dMetL mAppend (dVar 3) (aCons (dVar 5) aNil))))))
    (sRet (dApp (bTuple) (aCons (dVar 3) aNil)))))
@[irreducible] noncomputable def f_join_record : FSem := runF 6 3 D_join_record

/-! changes_of : slots 0 bag, 1 time, 2 record -/
abbrev s_changes_of : Stmt := top 8
noncomputable def D_changes_of : DS :=
    (sRet (dLc false [2] (iSeq (dVar 0)) (gName 2) tYes (dTup (aCons (dVar 2) (aCons (dVar 1) (aCons (dBin opIx (dVar 0) (dVar 2)) aNil))))))
@[irreducible] noncomputable def f_changes_of : FSem := runF 3 2 D_changes_of

/-! pair_changes : slots 0 line, 1 left, 2 right, 3 matches, 4 change, 5 key, 6 pair, 7 made, 8 record, 9 time, 10 count, 11 other, 12 other_time, 13 other_count, 14 image -/
abbrev s_pair_changes : Stmt := top 9
noncomputable def D_pair_changes : DS :=
    (sSeq (sAsg (dDct0 true) (gName 3))
    (sSeq (sFor (iSeq (dVar 2)) (gName 4)
    (sSeq (sAsg (dCall f_key_of false (aCons (dBin opIx (dVar 4) (dCst (.int 0))) (aCons (dLc false [6] (iSeq (dBin opIx (dVar 0) (dCst (.int 4)))) (gName 6) tYes (dBin opIx (dVar 6) (dCst (.int 1)))) aNil))) (gName 5))
      (sExpr (dMetL mAppend (dSetd (dVar 3) (dVar 5) (dLst true aNil)) (aCons (dVar 4) aNil)))))
    (sSeq (sAsg (dLst true aNil) (gName 7))
    (sSeq (sFor (iSeq (dVar 1)) (gTup [(gName 8), (gName 9), (gName 10)])
    (sSeq (sAsg (dCall f_key_of false (aCons (dVar 8) (aCons (dLc false [6] (iSeq (dBin opIx (dVar 0) (dCst (.int 4)))) (gName 6) tYes (dBin opIx (dVar 6) (dCst (.int 0)))) aNil))) (gName 5))
      (sFor (iSeq (dGet2 (dVar 3) (dVar 5) (dLst false aNil))) (gTup [(gName 11), (gName 12), (gName 13)])
      (sSeq (sAsg (dCall f_join_record false (aCons (dBin opIx (dVar 0) (dCst (.int 5))) (aCons (dVar 8) (aCons (dVar 11) aNil)))) (gName 14))
        (sExpr (dMetL mAppend (dVar 7) (aCons (dTup (aCons (dVar 14) (aCons (dCall f_lub false (aCons (dVar 9) (aCons (dVar 12) aNil))) (aCons (dBin opMul (dVar 10) (dVar 13)) aNil)))) aNil)))))))
    (sRet (dVar 7))))))
@[irreducible] noncomputable def f_pair_changes : FSem := runF 15 3 D_pair_changes

/-! join_step : slots 0 line, 1 side, 2 kept, 3 bag, 4 time, 5 brought -/
abbrev s_join_step : Stmt := top 10
noncomputable def D_join_step : DS :=
    (sSeq (sAsg (dCall f_changes_of false (aCons (dVar 3) (aCons (dVar 4) aNil))) (gName 5))
    (sSeq (sIf (tVal (dBin (cmpEq false) (dVar 1) (dCst (.str "left"))))
    (sRet (dCall f_tidy true (aCons (dCall f_pair_changes false (aCons (dVar 0) (aCons (dVar 5) (aCons (dVar 2) aNil)))) aNil)))
    sPass)
    (sRet (dCall f_tidy true (aCons (dCall f_pair_changes false (aCons (dVar 0) (aCons (dVar 2) (aCons (dVar 5) aNil)))) aNil)))))
@[irreducible] noncomputable def f_join_step : FSem := runF 6 5 D_join_step

/-! _law_mix : slots 0 number, 1 k -/
abbrev s_law_mix : Stmt := top 12
noncomputable def D_law_mix : DS :=
    (sSeq (sAsg (dBin opMod (dApp (bInt) (aCons (dBin (opAdd false) (dBin (opAdd false) (dBin opMul (dVar 0) (dCst (.int 48271))) (dBin opMul (dVar 1) (dCst (.int 69621)))) (dCst (.int 11))) aNil)) (dCst (.int 2147483647))) (gName 0))
    (sSeq (sAsg (dBin opMod (dApp (bInt) (aCons (dBin (opAdd false) (dBin (opAdd false) (dBin opMul (dVar 0) (dVar 0)) (dBin opMul (dVar 1) (dCst (.int 7919)))) (dCst (.int 5))) aNil)) (dCst (.int 2147483629))) (gName 0))
    (sRet (dBin opMod (dApp (bInt) (aCons (dBin (opAdd false) (dBin (opAdd false) (dBin opMul (dVar 0) (dVar 0)) (dBin opMul (dVar 1) (dCst (.int 40692)))) (dCst (.int 3))) aNil)) (dCst (.int 2147483587))))))
@[irreducible] noncomputable def f_law_mix : FSem := runF 2 2 D_law_mix

/-! _law_pool : slots 0 script, 1 pool, 2 state, 3 k, 4 cell, 5 turn -/
abbrev s_law_pool : Stmt := top 13
noncomputable def D_law_pool : DS :=
    (sSeq (sAsg (dLst true aNil) (gName 1))
    (sSeq (sAsg (dApp (bLen) (aCons (dVar 0) aNil)) (gName 2))
    (sSeq (sFor (iRng1 (dApp (bMin) (aCons (dApp (bLen) (aCons (dVar 0) aNil)) (aCons (dCst (.int 63)) aNil)))) (gName 3)
    (sSeq (sAsg (dApp (bAbs) (aCons (dApp (bInt) (aCons (dBin opIx (dVar 0) (dVar 3)) aNil)) aNil)) (gName 4))
      (sSeq (sAsg (dCall f_law_mix false (aCons (dBin (opAdd false) (dVar 2) (dBin opMod (dApp (bInt) (aCons (dVar 4) aNil)) (dCst (.int 1000000007)))) (aCons (dVar 3) aNil))) (gName 2))
      (sIf (tVal (dBin cmpGe (dVar 4) (dBin opPow (dCst (.int 10)) (dCst (.int 18)))))
      (sFor (iRng1 (dCst (.int 60))) (gName 5)
        (sIf (tVal (dBin (cmpI fun i j => decide (j < i)) (dVar 4) (dCst (.int 0))))
          (sSeq (sExpr (dMetL mAppend (dVar 1) (aCons (dBin opMod (dApp (bInt) (aCons (dVar 4) aNil)) (dCst (.int 1000))) aNil)))
            (sAsg (dBin opDiv (dVar 4) (dCst (.int 1000))) (gName 4)))
          sPass))
      (sFor (iRng1 (dCst (.int 3))) (gName 5)
        (sExpr (dMetL mAppend (dVar 1) (aCons (dCall f_law_mix false (aCons (dBin (opAdd false) (dVar 4) (dBin opMul (dCst (.int 65537)) (dVar 3))) (aCons (dVar 5) aNil))) aNil))))))))
    (sSeq (sExpr (dMetL mReverse (dVar 1) aNil))
    (sRet (dBin (opAdd true) (dLst false (aCons (dVar 2) (aCons (dCst (.int 0)) aNil))) (dVar 1)))))))
@[irreducible] noncomputable def f_law_pool : FSem := runF 6 1 D_law_pool

/-! _law_draw : slots 0 pool, 1 limit -/
abbrev s_law_draw : Stmt := top 14
noncomputable def D_law_draw : DS :=
    (sSeq (sIf (tVal (dBin (cmpI fun i j => decide (j < i)) (dApp (bLen) (aCons (dVar 0) aNil)) (dCst (.int 2))))
    (sRet (dBin opMod (dApp (bInt) (aCons (dMetL mPop (dVar 0) aNil) aNil)) (dVar 1)))
    sPass)
    (sSeq (sAsg (dBin (opAdd false) (dBin opIx (dVar 0) (dCst (.int 1))) (dCst (.int 1))) (gSub (dVar 0) (dCst (.int 1))))
    (sRet (dBin opMod (dApp (bInt) (aCons (dBin opDiv (dCall f_law_mix false (aCons (dBin (opAdd false) (dBin opIx (dVar 0) (dCst (.int 0))) (dBin opMul (dCst (.int 31)) (dBin opIx (dVar 0) (dCst (.int 1))))) (aCons (dBin opIx (dVar 0) (dCst (.int 1))) aNil))) (dCst (.int 3))) aNil)) (dVar 1)))))
@[irreducible] noncomputable def f_law_draw : FSem := runF 2 2 D_law_draw

/-! _law_pick : slots 0 pool, 1 rows -/
abbrev s_law_pick : Stmt := top 15
noncomputable def D_law_pick : DS :=
    (sRet (dBin opIx (dVar 1) (dCall f_law_draw false (aCons (dVar 0) (aCons (dApp (bLen) (aCons (dVar 1) aNil)) aNil)))))
@[irreducible] noncomputable def f_law_pick : FSem := runF 2 2 D_law_pick

/-! _law_whole : slots 0 number -/
abbrev s_law_whole : Stmt := top 16
noncomputable def D_law_whole : DS :=
    (sRet (dAnd (dUn (bIsi .int) (dVar 0)) (dUn opNot (dUn (bIsi .bool) (dVar 0)))))
@[irreducible] noncomputable def f_law_whole : FSem := runF 1 1 D_law_whole

/-! _law_plain : slots 0 key, 1 part -/
abbrev s_law_plain : Stmt := top 18
noncomputable def D_law_plain (self : FSem) : DS :=
    (sSeq (sIf (tVal (dUn (bIsi .tuple) (dVar 0)))
    (sRet (dBin (cmpIn true) (dCst (.bl false)) (dLc false [1] (iSeq (dVar 0)) (gName 1) tYes (dCall self false (aCons (dVar 1) aNil)))))
    sPass)
    (sRet (dOr (dUn (bIsi .str) (dVar 0)) (dCall f_law_whole false (aCons (dVar 0) aNil)))))
noncomputable def r_law_plain : Nat → FSem
  | 0 => noSem
  | n + 1 => runF 2 1 (D_law_plain (r_law_plain n))
@[irreducible] noncomputable def f_law_plain (n : Nat) : FSem := r_law_plain n

/-! _law_same : slots 0 told, 1 due, 2 key, 3 k -/
abbrev s_law_same : Stmt := top 17
noncomputable def D_law_same (self : FSem) : DS :=
    (sSeq (sIf (tVal (dUn (cmpIsN false) (dVar 1)))
    (sRet (dUn (cmpIsN false) (dVar 0)))
    sPass)
    (sSeq (sIf (tVal (dUn (bIsi .bool) (dVar 1)))
    (sRet (dAnd (dUn (bIsi .bool) (dVar 0)) (dBin (cmpEq false) (dVar 0) (dVar 1))))
    sPass)
    (sSeq (sIf (tVal (dUn (bIsi .int) (dVar 1)))
    (sRet (dAnd (dCall f_law_whole false (aCons (dVar 0) aNil)) (dBin (cmpEq false) (dVar 0) (dVar 1))))
    sPass)
    (sSeq (sIf (tVal (dUn (bIsi .str) (dVar 1)))
    (sRet (dAnd (dUn (bIsi .str) (dVar 0)) (dBin (cmpEq false) (dVar 0) (dVar 1))))
    sPass)
    (sSeq (sIf (tVal (dUn (bIsi .dict) (dVar 1)))
    (sSeq (sIf (tOr (tNot (tVal (dUn (bIsi .dict) (dVar 0)))) (tVal (dBin (cmpEq true) (dApp (bLen) (aCons (dVar 0) aNil)) (dApp (bLen) (aCons (dVar 1) aNil)))))
      (sRet (dCst (.bl false)))
      sPass)
      (sSeq (sFor (iSeq (dVar 0)) (gName 2)
      (sIf (tOr (tVal (dBin (cmpIn true) (dVar 2) (dVar 1))) (tOr (tNot (tVal (dCall self false (aCons (dBin opIx (dVar 0) (dVar 2)) (aCons (dBin opIx (dVar 1) (dVar 2)) aNil))))) (tNot (tVal (dCall (f_law_plain 6) false (aCons (dVar 2) aNil))))))
        (sRet (dCst (.bl false)))
        sPass))
      (sRet (dCst (.bl true)))))
    sPass)
    (sSeq (sIf (tOr (tVal (dBin (cmpEq true) (dUn (bIsi .list) (dVar 1)) (dUn (bIsi .list) (dVar 0)))) (tVal (dBin (cmpEq true) (dUn (bIsi .tuple) (dVar 1)) (dUn (bIsi .tuple) (dVar 0)))))
    (sRet (dCst (.bl false)))
    sPass)
    (sSeq (sIf (tVal (dBin (cmpEq true) (dApp (bLen) (aCons (dVar 0) aNil)) (dApp (bLen) (aCons (dVar 1) aNil))))
    (sRet (dCst (.bl false)))
    sPass)
    (sSeq (sFor (iRng1 (dApp (bLen) (aCons (dVar 1) aNil))) (gName 3)
    (sIf (tNot (tVal (dCall self false (aCons (dBin opIx (dVar 0) (dVar 3)) (aCons (dBin opIx (dVar 1) (dVar 3)) aNil)))))
      (sRet (dCst (.bl false)))
      sPass))
    (sRet (dCst (.bl true)))))))))))
noncomputable def r_law_same : Nat → FSem
  | 0 => noSem
  | n + 1 => runF 4 2 (D_law_same (r_law_same n))
@[irreducible] noncomputable def f_law_same (n : Nat) : FSem := r_law_same n

/-! _law_leq : slots 0 one, 1 two, 2 k -/
abbrev s_law_leq : Stmt := top 19
noncomputable def D_law_leq : DS :=
    (sRet (dBin (cmpIn true) (dCst (.bl false)) (dLc false [2] (iRng1 (dApp (bLen) (aCons (dVar 0) aNil))) (gName 2) tYes (dBin (cmpI fun i j => decide (i ≤ j)) (dBin opIx (dVar 0) (dVar 2)) (dBin opIx (dVar 1) (dVar 2))))))
@[irreducible] noncomputable def f_law_leq : FSem := runF 3 2 D_law_leq

/-! _law_add : slots 0 bag, 1 record, 2 count, 3 total -/
abbrev s_law_add : Stmt := top 20
noncomputable def D_law_add : DS :=
    (sSeq (sAsg (dBin (opAdd false) (dGet2 (dVar 0) (dVar 1) (dCst (.int 0))) (dVar 2)) (gName 3))
    (sSeq (sAsg (dVar 3) (gSub (dVar 0) (dVar 1)))
    (sIf (tVal (dBin (cmpEq false) (dVar 3) (dCst (.int 0))))
    (sExpr (dPop1 (dVar 0) (dVar 1)))
    sPass)))
@[irreducible] noncomputable def f_law_add : FSem := runF 4 3 D_law_add

/-! _law_columns : slots 0 pool, 1 width, 2 many, 3 free, 4 picked, 5 turn, 6 at -/
abbrev s_law_columns : Stmt := top 21
noncomputable def D_law_columns : DS :=
    (sSeq (sAsg (dListR false (dVar 1)) (gName 3))
    (sSeq (sAsg (dLst true aNil) (gName 4))
    (sSeq (sFor (iRng1 (dVar 2)) (gName 5)
    (sSeq (sAsg (dCall f_law_draw false (aCons (dVar 0) (aCons (dApp (bLen) (aCons (dVar 3) aNil)) aNil))) (gName 6))
      (sSeq (sExpr (dMetL mAppend (dVar 4) (aCons (dBin opIx (dVar 3) (dVar 6)) aNil)))
      (sAsg (dBin (opAdd false) (dSl false (dVar 3) oNone (oSome (dVar 6))) (dSl false (dVar 3) (oSome (dBin (opAdd false) (dVar 6) (dCst (.int 1)))) oNone)) (gName 3)))))
    (sRet (dVar 4)))))
@[irreducible] noncomputable def f_law_columns : FSem := runF 7 3 D_law_columns

/-! _law_line : slots 0 pool, 1 wide, 2 many, 3 left, 4 right, 5 terms, 6 turn, 7 pairs, 8 k -/
abbrev s_law_line : Stmt := top 22
noncomputable def D_law_line : DS :=
    (sSeq (sAsg (dApp (bMin) (aCons (dCall f_law_pick false (aCons (dVar 0) (aCons (dLst false (aCons (dCst (.int 1)) (aCons (dCst (.int 2)) (aCons (dCst (.int 1)) (aCons (dCst (.int 3)) aNil))))) aNil))) (aCons (dBin opIx (dVar 1) (dCst (.int 0))) (aCons (dBin opIx (dVar 1) (dCst (.int 1))) aNil)))) (gName 2))
    (sSeq (sAsg (dCall f_law_columns false (aCons (dVar 0) (aCons (dBin opIx (dVar 1) (dCst (.int 0))) (aCons (dVar 2) aNil)))) (gName 3))
    (sSeq (sAsg (dCall f_law_columns false (aCons (dVar 0) (aCons (dBin opIx (dVar 1) (dCst (.int 1))) (aCons (dVar 2) aNil)))) (gName 4))
    (sSeq (sAsg (dLst true aNil) (gName 5))
    (sSeq (sFor (iRng1 (dBin (opAdd false) (dCst (.int 1)) (dCall f_law_draw false (aCons (dVar 0) (aCons (dCst (.int 4)) aNil))))) (gName 6)
    (sExpr (dMetL mAppend (dVar 5) (aCons (dCall f_law_pick false (aCons (dVar 0) (aCons (dLst false (aCons (dTup (aCons (dCst (.str "left")) (aCons (dCall f_law_draw false (aCons (dVar 0) (aCons (dBin opIx (dVar 1) (dCst (.int 0))) aNil))) aNil))) (aCons (dTup (aCons (dCst (.str "right")) (aCons (dCall f_law_draw false (aCons (dVar 0) (aCons (dBin opIx (dVar 1) (dCst (.int 1))) aNil))) aNil))) (aCons (dTup (aCons (dCst (.str "number")) (aCons (dCall f_law_draw false (aCons (dVar 0) (aCons (dCst (.int 100)) aNil))) aNil))) aNil)))) aNil))) aNil))))
    (sSeq (sAsg (dApp (bTuple) (aCons (dLc false [8] (iRng1 (dVar 2)) (gName 8) tYes (dTup (aCons (dBin opIx (dVar 3) (dVar 8)) (aCons (dBin opIx (dVar 4) (dVar 8)) aNil)))) aNil)) (gName 7))
    (sRet (dTup (aCons (dCst (.str "join")) (aCons (dCst (.str "j")) (aCons (dCst (.str "a")) (aCons (dCall f_law_pick false (aCons (dVar 0) (aCons (dLst false (aCons (dCst (.str "b")) (aCons (dCst (.str "a")) aNil))) aNil))) (aCons (dVar 7) (aCons (dApp (bTuple) (aCons (dVar 5) aNil)) aNil))))))))))))))
@[irreducible] noncomputable def f_law_line : FSem := runF 9 2 D_law_line

/-! _law_marks : slots 0 pool, 1 most, 2 length, 3 marks, 4 c, 5 values, 6 turn, 7 last -/
abbrev s_law_marks : Stmt := top 23
noncomputable def D_law_marks : DS :=
    (sSeq (sAsg (dBin opIx (dLst false (aCons (dLst false (aCons (dCst (.int 3)) (aCons (dCst (.int 3)) (aCons (dCst (.int 2)) (aCons (dCst (.int 2)) aNil))))) (aCons (dLst false (aCons (dCst (.int 9)) (aCons (dCst (.int 5)) (aCons (dCst (.int 3)) (aCons (dCst (.int 2)) aNil))))) aNil))) (dApp (bInt) (aCons (dBin (cmpEq false) (dCall f_law_draw false (aCons (dVar 0) (aCons (dCst (.int 16)) aNil))) (dCst (.int 0))) aNil))) (gName 1))
    (sSeq (sAsg (dCall f_law_pick false (aCons (dVar 0) (aCons (dLst false (aCons (dCst (.int 2)) (aCons (dCst (.int 3)) (aCons (dCst (.int 2)) (aCons (dCst (.int 1)) (aCons (dCst (.int 2)) (aCons (dCst (.int 4)) (aCons (dCst (.int 3)) (aCons (dCst (.int 2)) aNil))))))))) aNil))) (gName 2))
    (sSeq (sAsg (dLst true aNil) (gName 3))
    (sSeq (sFor (iRng1 (dVar 2)) (gName 4)
    (sSeq (sAsg (dLst true (aCons (dCall f_law_pick false (aCons (dVar 0) (aCons (dLst false (aCons (dCst (.int 0)) (aCons (dCst (.int 0)) (aCons (dCst (.int 1)) (aCons (dCall f_law_draw false (aCons (dVar 0) (aCons (dCst (.int 100)) aNil))) aNil))))) aNil))) aNil)) (gName 5))
      (sSeq (sFor (iRng1 (dCall f_law_pick false (aCons (dVar 0) (aCons (dLst false (aCons (dCst (.int 1)) (aCons (dCst (.int 1)) (aCons (dCall f_law_draw false (aCons (dVar 0) (aCons (dBin opIx (dVar 1) (dBin opSub (dVar 2) (dCst (.int 1)))) aNil))) aNil)))) aNil)))) (gName 6)
      (sSeq (sAsg (dBin opIx (dVar 5) (dBin opSub (dApp (bLen) (aCons (dVar 5) aNil)) (dCst (.int 1)))) (gName 7))
        (sIf (tVal (dBin cmpLt (dVar 7) (dCst (.int 99))))
        (sExpr (dMetL mAppend (dVar 5) (aCons (dBin (opAdd false) (dBin (opAdd false) (dVar 7) (dCst (.int 1))) (dCall f_law_pick false (aCons (dVar 0) (aCons (dLst false (aCons (dCst (.int 0)) (aCons (dCst (.int 0)) (aCons (dCall f_law_draw false (aCons (dVar 0) (aCons (dBin opSub (dCst (.int 99)) (dVar 7)) aNil))) aNil)))) aNil)))) aNil)))
        sPass)))
      (sExpr (dMetL mAppend (dVar 3) (aCons (dFrz 5) aNil))))))
    (sRet (dVar 3))))))
@[irreducible] noncomputable def f_law_marks : FSem := runF 8 1 D_law_marks

/-! _law_spots : slots 0 marks, 1 spots, 2 values, 3 longer, 4 spot, 5 value -/
abbrev s_law_spots : Stmt := top 24
noncomputable def D_law_spots : DS :=
    (sSeq (sAsg (dLst false (aCons (dTup aNil) aNil)) (gName 1))
    (sSeq (sFor (iSeq (dVar 0)) (gName 2)
    (sSeq (sAsg (dLst true aNil) (gName 3))
      (sSeq (sFor (iSeq (dVar 1)) (gName 4)
      (sExpr (dMetL mExtend (dVar 3) (aCons (dLc false [5] (iSeq (dVar 2)) (gName 5) tYes (dBin (opAdd false) (dVar 4) (dTup (aCons (dVar 5) aNil)))) aNil))))
      (sAsg (dVar 3) (gName 1)))))
    (sRet (dVar 1))))
@[irreducible] noncomputable def f_law_spots : FSem := runF 6 1 D_law_spots

/-! _law_records : slots 0 pool, 1 values, 2 width, 3 rows, 4 turn, 5 c -/
abbrev s_law_records : Stmt := top 25
noncomputable def D_law_records : DS :=
    (sSeq (sAsg (dLst true aNil) (gName 3))
    (sSeq (sFor (iRng1 (dBin (opAdd false) (dCst (.int 1)) (dCall f_law_draw false (aCons (dVar 0) (aCons (dCst (.int 4)) aNil))))) (gName 4)
    (sExpr (dMetL mAppend (dVar 3) (aCons (dApp (bTuple) (aCons (dLc false [5] (iRng1 (dVar 2)) (gName 5) tYes (dCall f_law_pick false (aCons (dVar 0) (aCons (dVar 1) aNil)))) aNil)) aNil))))
    (sRet (dVar 3))))
@[irreducible] noncomputable def f_law_records : FSem := runF 6 3 D_law_records

/-! _law_count : slots 0 pool, 1 count, 2 turn -/
abbrev s_law_count : Stmt := top 26
noncomputable def D_law_count : DS :=
    (sSeq (sAsg (dCall f_law_pick false (aCons (dVar 0) (aCons (dLst false (aCons (dCst (.int 1)) (aCons (dCst (.int 2)) (aCons (dCst (.int 1)) (aCons (dCst (.int 0)) (aCons (dCst (.int 1)) (aCons (dCst (.int 3)) (aCons (dCst (.int 1)) (aCons (dCst (.int 5)) (aCons (dCst (.int 2)) (aCons (dCst (.int 7)) aNil))))))))))) aNil))) (gName 1))
    (sSeq (sIf (tVal (dBin (cmpEq false) (dVar 1) (dCst (.int 0))))
    (sSeq (sFor (iRng1 (dBin (opAdd false) (dCst (.int 1)) (dCall f_law_draw false (aCons (dVar 0) (aCons (dCst (.int 12)) aNil))))) (gName 2)
      (sAsg (dBin (opAdd false) (dBin opMul (dVar 1) (dCst (.int 1000))) (dCall f_law_draw false (aCons (dVar 0) (aCons (dCst (.int 1000)) aNil)))) (gName 1)))
      (sAsg (dBin (opAdd false) (dVar 1) (dCst (.int 1))) (gName 1)))
    sPass)
    (sRet (dBin opMul (dCall f_law_pick false (aCons (dVar 0) (aCons (dLst false (aCons (dCst (.int 1)) (aCons (dUn opNeg (dCst (.int 1))) (aCons (dCst (.int 1)) aNil)))) aNil))) (dVar 1)))))
@[irreducible] noncomputable def f_law_count : FSem := runF 3 1 D_law_count

/-! _law_packet : slots 0 pool, 1 records, 2 spots, 3 rows, 4 side, 5 time, 6 bag, 7 turn, 8 earlier, 9 row, 10 record -/
abbrev s_law_packet : Stmt := top 27
noncomputable def D_law_packet : DS :=
    (sSeq (sAsg (dCall f_law_draw false (aCons (dVar 0) (aCons (dCst (.int 2)) aNil))) (gName 4))
    (sSeq (sAsg (dCall f_law_pick false (aCons (dVar 0) (aCons (dVar 2) aNil))) (gName 5))
    (sSeq (sAsg (dDct0 true) (gName 6))
    (sSeq (sFor (iRng1 (dCall f_law_pick false (aCons (dVar 0) (aCons (dLst false (aCons (dCst (.int 1)) (aCons (dCst (.int 2)) (aCons (dCst (.int 3)) (aCons (dCst (.int 0)) (aCons (dCst (.int 2)) aNil)))))) aNil)))) (gName 7)
    (sAsg (dCall f_law_count false (aCons (dVar 0) aNil)) (gSub (dVar 6) (dCall f_law_pick false (aCons (dVar 0) (aCons (dBin opIx (dVar 1) (dVar 4)) aNil))))))
    (sSeq (sAsg (dLc false [9] (iSeq (dVar 3)) (gName 9) (tVal (dBin (cmpEq false) (dBin opIx (dVar 9) (dCst (.int 0))) (dVar 4))) (dVar 9)) (gName 8))
    (sSeq (sIf (tAnd (tVal (dBin (cmpI fun i j => decide (j < i)) (dApp (bLen) (aCons (dVar 8) aNil)) (dCst (.int 0)))) (tVal (dBin (cmpEq false) (dCall f_law_draw false (aCons (dVar 0) (aCons (dCst (.int 3)) aNil))) (dCst (.int 0)))))
    (sSeq (sAsg (dCall f_law_pick false (aCons (dVar 0) (aCons (dVar 8) aNil))) (gName 9))
      (sSeq (sAsg (dApp (bDict true) (aCons (dLc false [10] (iSeq (dBin opIx (dVar 9) (dCst (.int 1)))) (gName 10) tYes (dTup (aCons (dVar 10) (aCons (dUn opNeg (dBin opIx (dBin opIx (dVar 9) (dCst (.int 1))) (dVar 10))) aNil)))) aNil)) (gName 6))
      (sAsg (dCall f_law_pick false (aCons (dVar 0) (aCons (dLst false (aCons (dVar 5) (aCons (dBin opIx (dVar 9) (dCst (.int 2))) aNil))) aNil))) (gName 5))))
    sPass)
    (sRet (dTup (aCons (dVar 4) (aCons (dFrz 6) (aCons (dVar 5) aNil)))))))))))
@[irreducible] noncomputable def f_law_packet : FSem := runF 11 4 D_law_packet

/-! _law_listed : slots 0 bags, 1 spots, 2 rows, 3 k, 4 record -/
abbrev s_law_listed : Stmt := top 28
noncomputable def D_law_listed : DS :=
    (sSeq (sAsg (dLst true aNil) (gName 2))
    (sSeq (sFor (iRng1 (dApp (bLen) (aCons (dVar 1) aNil))) (gName 3)
    (sExpr (dMetL mExtend (dVar 2) (aCons (dLc false [4] (iSeq (dApp (bSorted false) (aCons (dBin opIx (dVar 0) (dVar 3)) aNil))) (gName 4) tYes (dTup (aCons (dVar 4) (aCons (dBin opIx (dVar 1) (dVar 3)) (aCons (dBin opIx (dBin opIx (dVar 0) (dVar 3)) (dVar 4)) aNil))))) aNil))))
    (sRet (dVar 2))))
@[irreducible] noncomputable def f_law_listed : FSem := runF 5 2 D_law_listed

/-! _law_numbers : slots 0 thing, 1 many, 2 part -/
abbrev s_law_numbers : Stmt := top 29
noncomputable def D_law_numbers : DS :=
    (sSeq (sIf (tOr (tNot (tVal (dUn (bIsi .tuple) (dVar 0)))) (tVal (dBin (cmpEq true) (dApp (bLen) (aCons (dVar 0) aNil)) (dVar 1))))
    (sRet (dCst (.bl false)))
    sPass)
    (sRet (dBin (cmpIn true) (dCst (.bl false)) (dLc false [2] (iSeq (dVar 0)) (gName 2) tYes (dCall f_law_whole false (aCons (dVar 2) aNil))))))
@[irreducible] noncomputable def f_law_numbers : FSem := runF 3 2 D_law_numbers

/-! _law_tidied : slots 0 told, 1 width, 2 marks, 3 k, 4 row, 5 c -/
abbrev s_law_tidied : Stmt := top 30
noncomputable def D_law_tidied : DS :=
    (sSeq (sIf (tNot (tVal (dUn (bIsi .list) (dVar 0))))
    (sRet (dCst (.bl false)))
    sPass)
    (sSeq (sFor (iRng1 (dApp (bLen) (aCons (dVar 0) aNil))) (gName 3)
    (sSeq (sAsg (dBin opIx (dVar 0) (dVar 3)) (gName 4))
      (sSeq (sIf (tOr (tNot (tVal (dUn (bIsi .tuple) (dVar 4)))) (tOr (tVal (dBin (cmpEq true) (dApp (bLen) (aCons (dVar 4) aNil)) (dCst (.int 3)))) (tOr (tNot (tVal (dCall f_law_whole false (aCons (dBin opIx (dVar 4) (dCst (.int 2))) aNil)))) (tVal (dBin (cmpEq false) (dBin opIx (dVar 4) (dCst (.int 2))) (dCst (.int 0)))))))
      (sRet (dCst (.bl false)))
      sPass)
      (sSeq (sIf (tOr (tNot (tVal (dCall f_law_numbers false (aCons (dBin opIx (dVar 4) (dCst (.int 0))) (aCons (dVar 1) aNil))))) (tNot (tVal (dCall f_law_numbers false (aCons (dBin opIx (dVar 4) (dCst (.int 1))) (aCons (dApp (bLen) (aCons (dVar 2) aNil)) aNil))))))
      (sRet (dCst (.bl false)))
      sPass)
      (sSeq (sIf (tVal (dBin (cmpIn false) (dCst (.bl false)) (dLc false [5] (iRng1 (dApp (bLen) (aCons (dVar 2) aNil))) (gName 5) tYes (dBin (cmpIn false) (dBin opIx (dBin opIx (dVar 4) (dCst (.int 1))) (dVar 5)) (dBin opIx (dVar 2) (dVar 5))))))
      (sRet (dCst (.bl false)))
      sPass)
      (sIf (tAnd (tVal (dBin (cmpI fun i j => decide (j < i)) (dVar 3) (dCst (.int 0)))) (tVal (dBin cmpGe (dTup (aCons (dBin opIx (dBin opIx (dVar 0) (dBin opSub (dVar 3) (dCst (.int 1)))) (dCst (.int 1))) (aCons (dBin opIx (dBin opIx (dVar 0) (dBin opSub (dVar 3) (dCst (.int 1)))) (dCst (.int 0))) aNil))) (dTup (aCons (dBin opIx (dVar 4) (dCst (.int 1))) (aCons (dBin opIx (dVar 4) (dCst (.int 0))) aNil))))))
      (sRet (dCst (.bl false)))
      sPass))))))
    (sRet (dCst (.bl true)))))
@[irreducible] noncomputable def f_law_tidied : FSem := runF 6 3 D_law_tidied

/-! _law_ask : slots 0 line, 1 row, 2 kept, 3 marks, 4 side, 5 handed, 6 bag, 7 record, 8 told, 9 first -/
abbrev s_law_ask : Stmt := top 31
noncomputable def D_law_ask : DS :=
    (sSeq (sAsg (dBin opIx (dLst false (aCons (dCst (.str "left")) (aCons (dCst (.str "right")) aNil))) (dBin opIx (dVar 1) (dCst (.int 0)))) (gName 4))
    (sSeq (sAsg (dApp (bList false) (aCons (dVar 2) aNil)) (gName 5))
    (sSeq (sAsg (dApp (bDict false) (aCons (dLc false [7] (iSeq (dBin opIx (dVar 1) (dCst (.int 1)))) (gName 7) tYes (dTup (aCons (dVar 7) (aCons (dBin opIx (dBin opIx (dVar 1) (dCst (.int 1))) (dVar 7)) aNil)))) aNil)) (gName 6))
    (sSeq (sAsg (dCall f_join_step true (aCons (dVar 0) (aCons (dVar 4) (aCons (dVar 5) (aCons (dVar 6) (aCons (dBin opIx (dVar 1) (dCst (.int 2))) aNil)))))) (gName 8))
    (sSeq (sIf (tNot (tVal (dCall f_law_tidied false (aCons (dVar 8) (aCons (dApp (bLen) (aCons (dBin opIx (dVar 0) (dCst (.int 5))) aNil)) (aCons (dVar 3) aNil))))))
    (sRet (dCst .non))
    sPass)
    (sSeq (sAsg (dApp (bList false) (aCons (dVar 8) aNil)) (gName 9))
    (sSeq (sExpr (dMetL mAppend (dVar 8) (aCons (dTup (aCons (dCst (.str "more")) aNil)) aNil)))
    (sSeq (sIf (tOr (tNot (tVal (dCall (f_law_same 6) false (aCons (dVar 5) (aCons (dVar 2) aNil))))) (tNot (tVal (dCall (f_law_same 6) false (aCons (dVar 6) (aCons (dBin opIx (dVar 1) (dCst (.int 1))) aNil))))))
    (sRet (dCst .non))
    sPass)
    (sSeq (sIf (tNot (tVal (dCall (f_law_same 6) false (aCons (dCall f_join_step false (aCons (dVar 0) (aCons (dVar 4) (aCons (dVar 5) (aCons (dVar 6) (aCons (dBin opIx (dVar 1) (dCst (.int 2))) aNil)))))) (aCons (dVar 9) aNil)))))
    (sRet (dCst .non))
    sPass)
    (sRet (dVar 9)))))))))))
@[irreducible] noncomputable def f_law_ask : FSem := runF 10 4 D_law_ask

/-! _law_joined : slots 0 line, 1 left, 2 right, 3 made, 4 one, 5 two, 6 pair, 7 sides, 8 term -/
abbrev s_law_joined : Stmt := top 32
noncomputable def D_law_joined : DS :=
    (sSeq (sAsg (dDct0 true) (gName 3))
    (sSeq (sFor (iSeq (dVar 1)) (gName 4)
    (sFor (iSeq (dVar 2)) (gName 5)
      (sIf (tVal (dBin (cmpEq false) (dLc false [6] (iSeq (dBin opIx (dVar 0) (dCst (.int 4)))) (gName 6) tYes (dBin opIx (dVar 4) (dBin opIx (dVar 6) (dCst (.int 0))))) (dLc false [6] (iSeq (dBin opIx (dVar 0) (dCst (.int 4)))) (gName 6) tYes (dBin opIx (dVar 5) (dBin opIx (dVar 6) (dCst (.int 1)))))))
        (sSeq (sAsg (dDisp [.inr "left", .inr "right", .inr "number"] (aCons (dVar 4) (aCons (dVar 5) (aCons (dTupR (dCst (.int 100))) aNil)))) (gName 7))
          (sExpr (dCall f_law_add false (aCons (dVar 3) (aCons (dApp (bTuple) (aCons (dLc false [8] (iSeq (dBin opIx (dVar 0) (dCst (.int 5)))) (gName 8) tYes (dBin opIx (dBin opIx (dVar 7) (dBin opIx (dVar 8) (dCst (.int 0)))) (dBin opIx (dVar 8) (dCst (.int 1))))) aNil)) (aCons (dBin opMul (dBin opIx (dVar 1) (dVar 4)) (dBin opIx (dVar 2) (dVar 5))) aNil))))))
        sPass)))
    (sRet (dVar 3))))
@[irreducible] noncomputable def f_law_joined : FSem := runF 9 3 D_law_joined

/-! law : slots 0 script, 1 pool, 2 wide, 3 line, 4 marks, 5 spots, 6 values, 7 k, 8 records, 9 brought, 10 spot, 11 so_far, 12 sums, 13 rows, 14 turn, 15 row, 16 side, 17 told, 18 record, 19 change -/
abbrev s_law : Stmt := top 33
noncomputable def D_law : DS :=
    (sSeq (sAsg (dCall f_law_pool true (aCons (dVar 0) aNil)) (gName 1))
    (sSeq (sAsg (dTup (aCons (dBin (opAdd false) (dCst (.int 1)) (dCall f_law_draw false (aCons (dVar 1) (aCons (dCst (.int 4)) aNil)))) (aCons (dBin (opAdd false) (dCst (.int 1)) (dCall f_law_draw false (aCons (dVar 1) (aCons (dCst (.int 4)) aNil)))) aNil))) (gName 2))
    (sSeq (sAsg (dCall f_law_line false (aCons (dVar 1) (aCons (dVar 2) aNil))) (gName 3))
    (sSeq (sAsg (dCall f_law_marks false (aCons (dVar 1) aNil)) (gName 4))
    (sSeq (sAsg (dCall f_law_spots false (aCons (dVar 4) aNil)) (gName 5))
    (sSeq (sAsg (dLc false [7] (iRng1 (dBin (opAdd false) (dCst (.int 1)) (dCall f_law_draw false (aCons (dVar 1) (aCons (dCst (.int 3)) aNil))))) (gName 7) tYes (dCall f_law_draw false (aCons (dVar 1) (aCons (dCst (.int 100)) aNil)))) (gName 6))
    (sSeq (sAsg (dLst false (aCons (dCall f_law_records false (aCons (dVar 1) (aCons (dVar 6) (aCons (dBin opIx (dVar 2) (dCst (.int 0))) aNil)))) (aCons (dCall f_law_records false (aCons (dVar 1) (aCons (dVar 6) (aCons (dBin opIx (dVar 2) (dCst (.int 1))) aNil)))) aNil))) (gName 8))
    (sSeq (sAsg (dLst false (aCons (dLc false [10] (iSeq (dVar 5)) (gName 10) tYes (dDct0 true)) (aCons (dLc false [10] (iSeq (dVar 5)) (gName 10) tYes (dDct0 true)) aNil))) (gName 9))
    (sSeq (sAsg (dLst false (aCons (dLc false [10] (iSeq (dVar 5)) (gName 10) tYes (dDct0 true)) (aCons (dLc false [10] (iSeq (dVar 5)) (gName 10) tYes (dDct0 true)) aNil))) (gName 11))
    (sSeq (sAsg (dLc false [10] (iSeq (dVar 5)) (gName 10) tYes (dDct0 true)) (gName 12))
    (sSeq (sAsg (dLst true aNil) (gName 13))
    (sSeq (sFor (iRng1 (dBin (opAdd false) (dCst (.int 2)) (dCall f_law_draw false (aCons (dVar 1) (aCons (dBin opIx (dLst false (aCons (dCst (.int 8)) (aCons (dCst (.int 13)) aNil))) (dApp (bInt) (aCons (dBin (cmpEq false) (dCall f_law_draw false (aCons (dVar 1) (aCons (dCst (.int 16)) aNil))) (dCst (.int 0))) aNil))) aNil))))) (gName 14)
    (sSeq (sAsg (dCall f_law_packet false (aCons (dVar 1) (aCons (dVar 8) (aCons (dVar 5) (aCons (dVar 13) aNil))))) (gName 15))
      (sSeq (sExpr (dMetL mAppend (dVar 13) (aCons (dVar 15) aNil)))
      (sSeq (sAsg (dBin opIx (dVar 15) (dCst (.int 0))) (gName 16))
      (sSeq (sAsg (dCall f_law_ask false (aCons (dVar 3) (aCons (dVar 15) (aCons (dCall f_law_listed false (aCons (dBin opIx (dVar 9) (dBin opSub (dCst (.int 1)) (dVar 16))) (aCons (dVar 5) aNil))) (aCons (dVar 4) aNil))))) (gName 17))
      (sSeq (sIf (tVal (dUn (cmpIsN false) (dVar 17)))
      (sRet (dCst (.bl false)))
      sPass)
      (sSeq (sFor (iSeq (dBin opIx (dVar 15) (dCst (.int 1)))) (gName 18)
      (sExpr (dCall f_law_add false (aCons (dBin opIx (dBin opIx (dVar 9) (dVar 16)) (dIndex (dVar 5) (dBin opIx (dVar 15) (dCst (.int 2))))) (aCons (dVar 18) (aCons (dBin opIx (dBin opIx (dVar 15) (dCst (.int 1))) (dVar 18)) aNil))))))
      (sFor (iRng1 (dApp (bLen) (aCons (dVar 5) aNil))) (gName 7)
      (sSeq (sIf (tVal (dCall f_law_leq false (aCons (dBin opIx (dVar 15) (dCst (.int 2))) (aCons (dBin opIx (dVar 5) (dVar 7)) aNil))))
        (sFor (iSeq (dBin opIx (dVar 15) (dCst (.int 1)))) (gName 18)
          (sExpr (dCall f_law_add false (aCons (dBin opIx (dBin opIx (dVar 11) (dVar 16)) (dVar 7)) (aCons (dVar 18) (aCons (dBin opIx (dBin opIx (dVar 15) (dCst (.int 1))) (dVar 18)) aNil))))))
        sPass)
        (sSeq (sFor (iSeq (dVar 17)) (gName 19)
        (sIf (tVal (dCall f_law_leq false (aCons (dBin opIx (dVar 19) (dCst (.int 1))) (aCons (dBin opIx (dVar 5) (dVar 7)) aNil))))
          (sExpr (dCall f_law_add false (aCons (dBin opIx (dVar 12) (dVar 7)) (aCons (dBin opIx (dVar 19) (dCst (.int 0))) (aCons (dBin opIx (dVar 19) (dCst (.int 2))) aNil)))))
          sPass))
        (sIf (tVal (dBin (cmpEqD true) (dBin opIx (dVar 12) (dVar 7)) (dCall f_law_joined false (aCons (dVar 3) (aCons (dBin opIx (dBin opIx (dVar 11) (dCst (.int 0))) (dVar 7)) (aCons (dBin opIx (dBin opIx (dVar 11) (dCst (.int 1))) (dVar 7)) aNil))))))
        (sRet (dCst (.bl false)))
        sPass)))))))))))
    (sRet (dCst (.bl true)))))))))))))))
@[irreducible] noncomputable def f_law : FSem := runF 20 1 D_law
abbrev bs : List Str := ["len", "abs", "int", "max", "min", "tuple", "list", "sorted", "isinstance", "range", "bool", "str", "dict", "set", "reversed", "sum", "any", "enumerate"]
def BsOk (mg : Str → Option Value) : Prop := ∀ n, bs.contains n = true → mg n = none
section
variable {P : Program} {w : World} {K : PySem.W.Frag} {mg : Str → Option Value} {base : Heap}
theorem sc_lub : FnScope ["a", "b", "i"] ["a", "b"] (defScope s_lub) := ⟨rfl, rfl, rfl, by decide +kernel, rfl, by decide +kernel, by decide +kernel⟩
theorem t_lub : trSs 60 ⟨["a", "b", "i"], defScope s_lub, fun _ => true, [], bs, [], []⟩ (defBody s_lub) = some D_lub := by kernel_rfl
theorem e_lub {fa : Addr} {fd : FuncData} (F : Fun K "lub" "lub" s_lub fa fd) (hm : mg "lub" = some (.ref fa)) (B : BsOk mg)  : Ent P w K mg base 1 "lub" 2 f_lub := by
  unfold f_lub
  exact ⟨fa, fd, ["a", "b"], fn_tr (k := 0) F sc_lub GAll.nil B CAll.nil t_lub, hm, F.kp, F.binds (ps := ["a", "b"]) fun _ _ _ _ _ _ us hl => match us, hl with | [_, _], _ => rfl⟩
theorem sc_tidy : FnScope ["changes", "counts", "record", "time", "count", "key"] ["changes"] (defScope s_tidy) := ⟨rfl, rfl, rfl, by decide +kernel, rfl, by decide +kernel, by decide +kernel⟩
theorem t_tidy : trSs 60 ⟨["changes", "counts", "record", "time", "count", "key"], defScope s_tidy, fun _ => true, [], bs, [(6, 13, 15), (9, 11, 88)], []⟩ (defBody s_tidy) = some D_tidy := by kernel_rfl
theorem e_tidy {fa : Addr} {fd : FuncData} (F : Fun K "tidy" "tidy" s_tidy fa fd) (hm : mg "tidy" = some (.ref fa)) (B : BsOk mg)  : Ent P w K mg base 1 "tidy" 1 f_tidy := by
  unfold f_tidy
  exact ⟨fa, fd, ["changes"], fn_tr (k := 0) F sc_tidy GAll.nil B CAll.nil t_tidy, hm, F.kp, F.binds (ps := ["changes"]) fun _ _ _ _ _ _ us hl => match us, hl with | [_], _ => rfl⟩
theorem sc_key_of : FnScope ["record", "columns", "column"] ["record", "columns"] (defScope s_key_of) := ⟨rfl, rfl, rfl, by decide +kernel, rfl, by decide +kernel, by decide +kernel⟩
theorem t_key_of : trSs 60 ⟨["record", "columns", "column"], defScope s_key_of, fun _ => true, [], bs, [], []⟩ (defBody s_key_of) = some D_key_of := by kernel_rfl
theorem e_key_of {fa : Addr} {fd : FuncData} (F : Fun K "key_of" "key_of" s_key_of fa fd) (hm : mg "key_of" = some (.ref fa)) (B : BsOk mg)  : Ent P w K mg base 1 "key_of" 2 f_key_of := by
  unfold f_key_of
  exact ⟨fa, fd, ["record", "columns"], fn_tr (k := 0) F sc_key_of GAll.nil B CAll.nil t_key_of, hm, F.kp, F.binds (ps := ["record", "columns"]) fun _ _ _ _ _ _ us hl => match us, hl with | [_, _], _ => rfl⟩
theorem sc_join_record : FnScope ["terms", "left", "right", "fields", "side", "number"] ["terms", "left", "right"] (defScope s_join_record) := ⟨rfl, rfl, rfl, by decide +kernel, rfl, by decide +kernel, by decide +kernel⟩
theorem t_join_record : trSs 60 ⟨["terms", "left", "right", "fields", "side", "number"], defScope s_join_record, fun _ => true, [], bs, [(14, 13, 15)], []⟩ (defBody s_join_record) = some D_join_record := by kernel_rfl
theorem e_join_record {fa : Addr} {fd : FuncData} (F : Fun K "join_record" "join_record" s_join_record fa fd) (hm : mg "join_record" = some (.ref fa)) (B : BsOk mg)  : Ent P w K mg base 1 "join_record" 3 f_join_record := by
  unfold f_join_record
  exact ⟨fa, fd, ["terms", "left", "right"], fn_tr (k := 0) F sc_join_record GAll.nil B CAll.nil t_join_record, hm, F.kp, F.binds (ps := ["terms", "left", "right"]) fun _ _ _ _ _ _ us hl => match us, hl with | [_, _, _], _ => rfl⟩
theorem sc_changes_of : FnScope ["bag", "time", "record"] ["bag", "time"] (defScope s_changes_of) := ⟨rfl, rfl, rfl, by decide +kernel, rfl, by decide +kernel, by decide +kernel⟩
theorem t_changes_of : trSs 60 ⟨["bag", "time", "record"], defScope s_changes_of, fun _ => true, [], bs, [], []⟩ (defBody s_changes_of) = some D_changes_of := by kernel_rfl
theorem e_changes_of {fa : Addr} {fd : FuncData} (F : Fun K "changes_of" "changes_of" s_changes_of fa fd) (hm : mg "changes_of" = some (.ref fa)) (B : BsOk mg)  : Ent P w K mg base 1 "changes_of" 2 f_changes_of := by
  unfold f_changes_of
  exact ⟨fa, fd, ["bag", "time"], fn_tr (k := 0) F sc_changes_of GAll.nil B CAll.nil t_changes_of, hm, F.kp, F.binds (ps := ["bag", "time"]) fun _ _ _ _ _ _ us hl => match us, hl with | [_, _], _ => rfl⟩
theorem sc_pair_changes : FnScope ["line", "left", "right", "matches", "change", "key", "pair", "made", "record", "time", "count", "other", "other_time", "other_count", "image"] ["line", "left", "right"] (defScope s_pair_changes) := ⟨rfl, rfl, rfl, by decide +kernel, rfl, by decide +kernel, by decide +kernel⟩
theorem t_pair_changes : trSs 60 ⟨["line", "left", "right", "matches", "change", "key", "pair", "made", "record", "time", "count", "other", "other_time", "other_count", "image"], defScope s_pair_changes, fun _ => true, [("key_of", 2, f_key_of), ("join_record", 3, f_join_record), ("lub", 2, f_lub)], bs, [(27, 14, 16), (30, 32, 34), (31, 11, 13)], []⟩ (defBody s_pair_changes) = some D_pair_changes := by kernel_rfl
theorem e_pair_changes {fa : Addr} {fd : FuncData} (F : Fun K "pair_changes" "pair_changes" s_pair_changes fa fd) (hm : mg "pair_changes" = some (.ref fa)) (B : BsOk mg) (h0 : Ent P w K mg base 1 "key_of" 2 f_key_of) (h1 : Ent P w K mg base 1 "join_record" 3 f_join_record) (h2 : Ent P w K mg base 1 "lub" 2 f_lub) : Ent P w K mg base 2 "pair_changes" 3 f_pair_changes := by
  unfold f_pair_changes
  exact ⟨fa, fd, ["line", "left", "right"], fn_tr (k := 1) F sc_pair_changes (GAll.cons (h0.mono (by decide)) (GAll.cons (h1.mono (by decide)) (GAll.cons (h2.mono (by decide)) GAll.nil))) B CAll.nil t_pair_changes, hm, F.kp, F.binds (ps := ["line", "left", "right"]) fun _ _ _ _ _ _ us hl => match us, hl with | [_, _, _], _ => rfl⟩
theorem sc_join_step : FnScope ["line", "side", "kept", "bag", "time", "brought"] ["line", "side", "kept", "bag", "time"] (defScope s_join_step) := ⟨rfl, rfl, rfl, by decide +kernel, rfl, by decide +kernel, by decide +kernel⟩
theorem t_join_step : trSs 60 ⟨["line", "side", "kept", "bag", "time", "brought"], defScope s_join_step, fun _ => true, [("changes_of", 2, f_changes_of), ("tidy", 1, f_tidy), ("pair_changes", 3, f_pair_changes)], bs, [(41, 15, 54), (42, 11, 50)], []⟩ (defBody s_join_step) = some D_join_step := by kernel_rfl
theorem e_join_step {fa : Addr} {fd : FuncData} (F : Fun K "join_step" "join_step" s_join_step fa fd) (hm : mg "join_step" = some (.ref fa)) (B : BsOk mg) (h0 : Ent P w K mg base 1 "changes_of" 2 f_changes_of) (h1 : Ent P w K mg base 1 "tidy" 1 f_tidy) (h2 : Ent P w K mg base 2 "pair_changes" 3 f_pair_changes) : Ent P w K mg base 3 "join_step" 5 f_join_step := by
  unfold f_join_step
  exact ⟨fa, fd, ["line", "side", "kept", "bag", "time"], fn_tr (k := 2) F sc_join_step (GAll.cons (h0.mono (by decide)) (GAll.cons (h1.mono (by decide)) (GAll.cons (h2.mono (by decide)) GAll.nil))) B CAll.nil t_join_step, hm, F.kp, F.binds (ps := ["line", "side", "kept", "bag", "time"]) fun _ _ _ _ _ _ us hl => match us, hl with | [_, _, _, _, _], _ => rfl⟩
theorem sc_law_mix : FnScope ["number", "k"] ["number", "k"] (defScope s_law_mix) := ⟨rfl, rfl, rfl, by decide +kernel, rfl, by decide +kernel, by decide +kernel⟩
theorem t_law_mix : trSs 60 ⟨["number", "k"], defScope s_law_mix, fun _ => true, [], bs, [], []⟩ (defBody s_law_mix) = some D_law_mix := by kernel_rfl
theorem e_law_mix {fa : Addr} {fd : FuncData} (F : Fun K "_law_mix" "_law_mix" s_law_mix fa fd) (hm : mg "_law_mix" = some (.ref fa)) (B : BsOk mg)  : Ent P w K mg base 1 "_law_mix" 2 f_law_mix := by
  unfold f_law_mix
  exact ⟨fa, fd, ["number", "k"], fn_tr (k := 0) F sc_law_mix GAll.nil B CAll.nil t_law_mix, hm, F.kp, F.binds (ps := ["number", "k"]) fun _ _ _ _ _ _ us hl => match us, hl with | [_, _], _ => rfl⟩
theorem sc_law_pool : FnScope ["script", "pool", "state", "k", "cell", "turn"] ["script"] (defScope s_law_pool) := ⟨rfl, rfl, rfl, by decide +kernel, rfl, by decide +kernel, by decide +kernel⟩
theorem t_law_pool : trSs 60 ⟨["script", "pool", "state", "k", "cell", "turn"], defScope s_law_pool, fun _ => true, [("_law_mix", 2, f_law_mix)], bs, [(49, 11, 13), (63, 11, 28)], []⟩ (defBody s_law_pool) = some D_law_pool := by kernel_rfl
theorem e_law_pool {fa : Addr} {fd : FuncData} (F : Fun K "_law_pool" "_law_pool" s_law_pool fa fd) (hm : mg "_law_pool" = some (.ref fa)) (B : BsOk mg) (h0 : Ent P w K mg base 1 "_law_mix" 2 f_law_mix) : Ent P w K mg base 2 "_law_pool" 1 f_law_pool := by
  unfold f_law_pool
  exact ⟨fa, fd, ["script"], fn_tr (k := 1) F sc_law_pool (GAll.cons (h0.mono (by decide)) GAll.nil) B CAll.nil t_law_pool, hm, F.kp, F.binds (ps := ["script"]) fun _ _ _ _ _ _ us hl => match us, hl with | [_], _ => rfl⟩
theorem sc_law_draw : FnScope ["pool", "limit"] ["pool", "limit"] (defScope s_law_draw) := ⟨rfl, rfl, rfl, by decide +kernel, rfl, by decide +kernel, by decide +kernel⟩
theorem t_law_draw : trSs 60 ⟨["pool", "limit"], defScope s_law_draw, fun _ => true, [("_law_mix", 2, f_law_mix)], bs, [], []⟩ (defBody s_law_draw) = some D_law_draw := by kernel_rfl
theorem e_law_draw {fa : Addr} {fd : FuncData} (F : Fun K "_law_draw" "_law_draw" s_law_draw fa fd) (hm : mg "_law_draw" = some (.ref fa)) (B : BsOk mg) (h0 : Ent P w K mg base 1 "_law_mix" 2 f_law_mix) : Ent P w K mg base 2 "_law_draw" 2 f_law_draw := by
  unfold f_law_draw
  exact ⟨fa, fd, ["pool", "limit"], fn_tr (k := 1) F sc_law_draw (GAll.cons (h0.mono (by decide)) GAll.nil) B CAll.nil t_law_draw, hm, F.kp, F.binds (ps := ["pool", "limit"]) fun _ _ _ _ _ _ us hl => match us, hl with | [_, _], _ => rfl⟩
theorem sc_law_pick : FnScope ["pool", "rows"] ["pool", "rows"] (defScope s_law_pick) := ⟨rfl, rfl, rfl, by decide +kernel, rfl, by decide +kernel, by decide +kernel⟩
theorem t_law_pick : trSs 60 ⟨["pool", "rows"], defScope s_law_pick, fun _ => true, [("_law_draw", 2, f_law_draw)], bs, [], []⟩ (defBody s_law_pick) = some D_law_pick := by kernel_rfl
theorem e_law_pick {fa : Addr} {fd : FuncData} (F : Fun K "_law_pick" "_law_pick" s_law_pick fa fd) (hm : mg "_law_pick" = some (.ref fa)) (B : BsOk mg) (h0 : Ent P w K mg base 2 "_law_draw" 2 f_law_draw) : Ent P w K mg base 3 "_law_pick" 2 f_law_pick := by
  unfold f_law_pick
  exact ⟨fa, fd, ["pool", "rows"], fn_tr (k := 2) F sc_law_pick (GAll.cons (h0.mono (by decide)) GAll.nil) B CAll.nil t_law_pick, hm, F.kp, F.binds (ps := ["pool", "rows"]) fun _ _ _ _ _ _ us hl => match us, hl with | [_, _], _ => rfl⟩
theorem sc_law_whole : FnScope ["number"] ["number"] (defScope s_law_whole) := ⟨rfl, rfl, rfl, by decide +kernel, rfl, by decide +kernel, by decide +kernel⟩
theorem t_law_whole : trSs 60 ⟨["number"], defScope s_law_whole, fun _ => true, [], bs, [], []⟩ (defBody s_law_whole) = some D_law_whole := by kernel_rfl
theorem e_law_whole {fa : Addr} {fd : FuncData} (F : Fun K "_law_whole" "_law_whole" s_law_whole fa fd) (hm : mg "_law_whole" = some (.ref fa)) (B : BsOk mg)  : Ent P w K mg base 1 "_law_whole" 1 f_law_whole := by
  unfold f_law_whole
  exact ⟨fa, fd, ["number"], fn_tr (k := 0) F sc_law_whole GAll.nil B CAll.nil t_law_whole, hm, F.kp, F.binds (ps := ["number"]) fun _ _ _ _ _ _ us hl => match us, hl with | [_], _ => rfl⟩
theorem sc_law_plain : FnScope ["key", "part"] ["key"] (defScope s_law_plain) := ⟨rfl, rfl, rfl, by decide +kernel, rfl, by decide +kernel, by decide +kernel⟩
theorem t_law_plain (S : FSem) : trSs 60 ⟨["key", "part"], defScope s_law_plain, fun _ => true, [("_law_whole", 1, f_law_whole), ("_law_plain", 1, S)], bs, [], []⟩ (defBody s_law_plain) = some (D_law_plain S) := by kernel_rfl
theorem er_law_plain {fa : Addr} {fd : FuncData} (F : Fun K "_law_plain" "_law_plain" s_law_plain fa fd) (hm : mg "_law_plain" = some (.ref fa)) (B : BsOk mg) (h0 : Ent P w K mg base 1 "_law_whole" 1 f_law_whole) : ∀ n : Nat, Ent P w K mg base (1 + n) "_law_plain" 1 (r_law_plain n)
  | 0 => ⟨fa, fd, ["key"], (fn_no (ps := ["key"])).mono (Nat.zero_le _), hm, F.kp, F.binds (ps := ["key"]) fun _ _ _ _ _ _ us hl => match us, hl with | [_], _ => rfl⟩
  | n + 1 => ⟨fa, fd, ["key"], fn_tr (k := 1 + n) F sc_law_plain (GAll.cons (h0.mono (by omega)) (GAll.cons (er_law_plain F hm B h0 n) GAll.nil)) B CAll.nil (t_law_plain (r_law_plain n)), hm, F.kp, F.binds (ps := ["key"]) fun _ _ _ _ _ _ us hl => match us, hl with | [_], _ => rfl⟩
theorem e_law_plain {fa : Addr} {fd : FuncData} (F : Fun K "_law_plain" "_law_plain" s_law_plain fa fd) (hm : mg "_law_plain" = some (.ref fa)) (B : BsOk mg) (h0 : Ent P w K mg base 1 "_law_whole" 1 f_law_whole) (n : Nat) : Ent P w K mg base (1 + n) "_law_plain" 1 (f_law_plain n) := by
  unfold f_law_plain
  exact er_law_plain F hm B h0 n
theorem sc_law_same : FnScope ["told", "due", "key", "k"] ["told", "due"] (defScope s_law_same) := ⟨rfl, rfl, rfl, by decide +kernel, rfl, by decide +kernel, by decide +kernel⟩
theorem t_law_same (S : FSem) : trSs 60 ⟨["told", "due", "key", "k"], defScope s_law_same, fun _ => true, [("_law_whole", 1, f_law_whole), ("_law_same", 2, S), ("_law_plain", 1, (f_law_plain 6))], bs, [], []⟩ (defBody s_law_same) = some (D_law_same S) := by kernel_rfl
theorem er_law_same {fa : Addr} {fd : FuncData} (F : Fun K "_law_same" "_law_same" s_law_same fa fd) (hm : mg "_law_same" = some (.ref fa)) (B : BsOk mg) (h0 : Ent P w K mg base 1 "_law_whole" 1 f_law_whole) (h1 : Ent P w K mg base 7 "_law_plain" 1 (f_law_plain 6)) : ∀ n : Nat, Ent P w K mg base (7 + n) "_law_same" 2 (r_law_same n)
  | 0 => ⟨fa, fd, ["told", "due"], (fn_no (ps := ["told", "due"])).mono (Nat.zero_le _), hm, F.kp, F.binds (ps := ["told", "due"]) fun _ _ _ _ _ _ us hl => match us, hl with | [_, _], _ => rfl⟩
  | n + 1 => ⟨fa, fd, ["told", "due"], fn_tr (k := 7 + n) F sc_law_same (GAll.cons (h0.mono (by omega)) (GAll.cons (er_law_same F hm B h0 h1 n) (GAll.cons (h1.mono (by omega)) GAll.nil))) B CAll.nil (t_law_same (r_law_same n)), hm, F.kp, F.binds (ps := ["told", "due"]) fun _ _ _ _ _ _ us hl => match us, hl with | [_, _], _ => rfl⟩
theorem e_law_same {fa : Addr} {fd : FuncData} (F : Fun K "_law_same" "_law_same" s_law_same fa fd) (hm : mg "_law_same" = some (.ref fa)) (B : BsOk mg) (h0 : Ent P w K mg base 1 "_law_whole" 1 f_law_whole) (h1 : Ent P w K mg base 7 "_law_plain" 1 (f_law_plain 6)) (n : Nat) : Ent P w K mg base (7 + n) "_law_same" 2 (f_law_same n) := by
  unfold f_law_same
  exact er_law_same F hm B h0 h1 n
theorem sc_law_leq : FnScope ["one", "two", "k"] ["one", "two"] (defScope s_law_leq) := ⟨rfl, rfl, rfl, by decide +kernel, rfl, by decide +kernel, by decide +kernel⟩
theorem t_law_leq : trSs 60 ⟨["one", "two", "k"], defScope s_law_leq, fun _ => true, [], bs, [], []⟩ (defBody s_law_leq) = some D_law_leq := by kernel_rfl
theorem e_law_leq {fa : Addr} {fd : FuncData} (F : Fun K "_law_leq" "_law_leq" s_law_leq fa fd) (hm : mg "_law_leq" = some (.ref fa)) (B : BsOk mg)  : Ent P w K mg base 1 "_law_leq" 2 f_law_leq := by
  unfold f_law_leq
  exact ⟨fa, fd, ["one", "two"], fn_tr (k := 0) F sc_law_leq GAll.nil B CAll.nil t_law_leq, hm, F.kp, F.binds (ps := ["one", "two"]) fun _ _ _ _ _ _ us hl => match us, hl with | [_, _], _ => rfl⟩
theorem sc_law_add : FnScope ["bag", "record", "count", "total"] ["bag", "record", "count"] (defScope s_law_add) := ⟨rfl, rfl, rfl, by decide +kernel, rfl, by decide +kernel, by decide +kernel⟩
theorem t_law_add : trSs 60 ⟨["bag", "record", "count", "total"], defScope s_law_add, fun _ => true, [], bs, [(107, 8, 2000023)], []⟩ (defBody s_law_add) = some D_law_add := by kernel_rfl
theorem e_law_add {fa : Addr} {fd : FuncData} (F : Fun K "_law_add" "_law_add" s_law_add fa fd) (hm : mg "_law_add" = some (.ref fa)) (B : BsOk mg)  : Ent P w K mg base 1 "_law_add" 3 f_law_add := by
  unfold f_law_add
  exact ⟨fa, fd, ["bag", "record", "count"], fn_tr (k := 0) F sc_law_add GAll.nil B CAll.nil t_law_add, hm, F.kp, F.binds (ps := ["bag", "record", "count"]) fun _ _ _ _ _ _ us hl => match us, hl with | [_, _, _], _ => rfl⟩
theorem sc_law_columns : FnScope ["pool", "width", "many", "free", "picked", "turn", "at"] ["pool", "width", "many"] (defScope s_law_columns) := ⟨rfl, rfl, rfl, by decide +kernel, rfl, by decide +kernel, by decide +kernel⟩
theorem t_law_columns : trSs 60 ⟨["pool", "width", "many", "free", "picked", "turn", "at"], defScope s_law_columns, fun _ => true, [("_law_draw", 2, f_law_draw)], bs, [(110, 13, 15)], []⟩ (defBody s_law_columns) = some D_law_columns := by kernel_rfl
theorem e_law_columns {fa : Addr} {fd : FuncData} (F : Fun K "_law_columns" "_law_columns" s_law_columns fa fd) (hm : mg "_law_columns" = some (.ref fa)) (B : BsOk mg) (h0 : Ent P w K mg base 2 "_law_draw" 2 f_law_draw) : Ent P w K mg base 3 "_law_columns" 3 f_law_columns := by
  unfold f_law_columns
  exact ⟨fa, fd, ["pool", "width", "many"], fn_tr (k := 2) F sc_law_columns (GAll.cons (h0.mono (by decide)) GAll.nil) B CAll.nil t_law_columns, hm, F.kp, F.binds (ps := ["pool", "width", "many"]) fun _ _ _ _ _ _ us hl => match us, hl with | [_, _, _], _ => rfl⟩
theorem sc_law_line : FnScope ["pool", "wide", "many", "left", "right", "terms", "turn", "pairs", "k"] ["pool", "wide"] (defScope s_law_line) := ⟨rfl, rfl, rfl, by decide +kernel, rfl, by decide +kernel, by decide +kernel⟩
theorem t_law_line : trSs 60 ⟨["pool", "wide", "many", "left", "right", "terms", "turn", "pairs", "k"], defScope s_law_line, fun _ => true, [("_law_columns", 3, f_law_columns), ("_law_pick", 2, f_law_pick), ("_law_draw", 2, f_law_draw)], bs, [(120, 12, 14)], []⟩ (defBody s_law_line) = some D_law_line := by kernel_rfl
theorem e_law_line {fa : Addr} {fd : FuncData} (F : Fun K "_law_line" "_law_line" s_law_line fa fd) (hm : mg "_law_line" = some (.ref fa)) (B : BsOk mg) (h0 : Ent P w K mg base 3 "_law_columns" 3 f_law_columns) (h1 : Ent P w K mg base 3 "_law_pick" 2 f_law_pick) (h2 : Ent P w K mg base 2 "_law_draw" 2 f_law_draw) : Ent P w K mg base 4 "_law_line" 2 f_law_line := by
  unfold f_law_line
  exact ⟨fa, fd, ["pool", "wide"], fn_tr (k := 3) F sc_law_line (GAll.cons (h0.mono (by decide)) (GAll.cons (h1.mono (by decide)) (GAll.cons (h2.mono (by decide)) GAll.nil))) B CAll.nil t_law_line, hm, F.kp, F.binds (ps := ["pool", "wide"]) fun _ _ _ _ _ _ us hl => match us, hl with | [_, _], _ => rfl⟩
theorem sc_law_marks : FnScope ["pool", "most", "length", "marks", "c", "values", "turn", "last"] ["pool"] (defScope s_law_marks) := ⟨rfl, rfl, rfl, by decide +kernel, rfl, by decide +kernel, by decide +kernel⟩
theorem t_law_marks : trSs 60 ⟨["pool", "most", "length", "marks", "c", "values", "turn", "last"], defScope s_law_marks, fun _ => true, [("_law_pick", 2, f_law_pick), ("_law_draw", 2, f_law_draw)], bs, [(128, 12, 14), (130, 17, 67), (135, 21, 27)], []⟩ (defBody s_law_marks) = some D_law_marks := by kernel_rfl
theorem e_law_marks {fa : Addr} {fd : FuncData} (F : Fun K "_law_marks" "_law_marks" s_law_marks fa fd) (hm : mg "_law_marks" = some (.ref fa)) (B : BsOk mg) (h0 : Ent P w K mg base 3 "_law_pick" 2 f_law_pick) (h1 : Ent P w K mg base 2 "_law_draw" 2 f_law_draw) : Ent P w K mg base 4 "_law_marks" 1 f_law_marks := by
  unfold f_law_marks
  exact ⟨fa, fd, ["pool"], fn_tr (k := 3) F sc_law_marks (GAll.cons (h0.mono (by decide)) (GAll.cons (h1.mono (by decide)) GAll.nil)) B CAll.nil t_law_marks, hm, F.kp, F.binds (ps := ["pool"]) fun _ _ _ _ _ _ us hl => match us, hl with | [_], _ => rfl⟩
theorem sc_law_spots : FnScope ["marks", "spots", "values", "longer", "spot", "value"] ["marks"] (defScope s_law_spots) := ⟨rfl, rfl, rfl, by decide +kernel, rfl, by decide +kernel, by decide +kernel⟩
theorem t_law_spots : trSs 60 ⟨["marks", "spots", "values", "longer", "spot", "value"], defScope s_law_spots, fun _ => true, [], bs, [(140, 17, 19)], []⟩ (defBody s_law_spots) = some D_law_spots := by kernel_rfl
theorem e_law_spots {fa : Addr} {fd : FuncData} (F : Fun K "_law_spots" "_law_spots" s_law_spots fa fd) (hm : mg "_law_spots" = some (.ref fa)) (B : BsOk mg)  : Ent P w K mg base 1 "_law_spots" 1 f_law_spots := by
  unfold f_law_spots
  exact ⟨fa, fd, ["marks"], fn_tr (k := 0) F sc_law_spots GAll.nil B CAll.nil t_law_spots, hm, F.kp, F.binds (ps := ["marks"]) fun _ _ _ _ _ _ us hl => match us, hl with | [_], _ => rfl⟩
theorem sc_law_records : FnScope ["pool", "values", "width", "rows", "turn", "c"] ["pool", "values", "width"] (defScope s_law_records) := ⟨rfl, rfl, rfl, by decide +kernel, rfl, by decide +kernel, by decide +kernel⟩
theorem t_law_records : trSs 60 ⟨["pool", "values", "width", "rows", "turn", "c"], defScope s_law_records, fun _ => true, [("_law_draw", 2, f_law_draw), ("_law_pick", 2, f_law_pick)], bs, [(146, 11, 13)], []⟩ (defBody s_law_records) = some D_law_records := by kernel_rfl
theorem e_law_records {fa : Addr} {fd : FuncData} (F : Fun K "_law_records" "_law_records" s_law_records fa fd) (hm : mg "_law_records" = some (.ref fa)) (B : BsOk mg) (h0 : Ent P w K mg base 2 "_law_draw" 2 f_law_draw) (h1 : Ent P w K mg base 3 "_law_pick" 2 f_law_pick) : Ent P w K mg base 4 "_law_records" 3 f_law_records := by
  unfold f_law_records
  exact ⟨fa, fd, ["pool", "values", "width"], fn_tr (k := 3) F sc_law_records (GAll.cons (h0.mono (by decide)) (GAll.cons (h1.mono (by decide)) GAll.nil)) B CAll.nil t_law_records, hm, F.kp, F.binds (ps := ["pool", "values", "width"]) fun _ _ _ _ _ _ us hl => match us, hl with | [_, _, _], _ => rfl⟩
theorem sc_law_count : FnScope ["pool", "count", "turn"] ["pool"] (defScope s_law_count) := ⟨rfl, rfl, rfl, by decide +kernel, rfl, by decide +kernel, by decide +kernel⟩
theorem t_law_count : trSs 60 ⟨["pool", "count", "turn"], defScope s_law_count, fun _ => true, [("_law_pick", 2, f_law_pick), ("_law_draw", 2, f_law_draw)], bs, [], []⟩ (defBody s_law_count) = some D_law_count := by kernel_rfl
theorem e_law_count {fa : Addr} {fd : FuncData} (F : Fun K "_law_count" "_law_count" s_law_count fa fd) (hm : mg "_law_count" = some (.ref fa)) (B : BsOk mg) (h0 : Ent P w K mg base 3 "_law_pick" 2 f_law_pick) (h1 : Ent P w K mg base 2 "_law_draw" 2 f_law_draw) : Ent P w K mg base 4 "_law_count" 1 f_law_count := by
  unfold f_law_count
  exact ⟨fa, fd, ["pool"], fn_tr (k := 3) F sc_law_count (GAll.cons (h0.mono (by decide)) (GAll.cons (h1.mono (by decide)) GAll.nil)) B CAll.nil t_law_count, hm, F.kp, F.binds (ps := ["pool"]) fun _ _ _ _ _ _ us hl => match us, hl with | [_], _ => rfl⟩
theorem sc_law_packet : FnScope ["pool", "records", "spots", "rows", "side", "time", "bag", "turn", "earlier", "row", "record"] ["pool", "records", "spots", "rows"] (defScope s_law_packet) := ⟨rfl, rfl, rfl, by decide +kernel, rfl, by decide +kernel, by decide +kernel⟩
theorem t_law_packet : trSs 60 ⟨["pool", "records", "spots", "rows", "side", "time", "bag", "turn", "earlier", "row", "record"], defScope s_law_packet, fun _ => true, [("_law_draw", 2, f_law_draw), ("_law_pick", 2, f_law_pick), ("_law_count", 1, f_law_count)], bs, [(160, 10, 12), (166, 14, 68), (168, 18, 21)], []⟩ (defBody s_law_packet) = some D_law_packet := by kernel_rfl
theorem e_law_packet {fa : Addr} {fd : FuncData} (F : Fun K "_law_packet" "_law_packet" s_law_packet fa fd) (hm : mg "_law_packet" = some (.ref fa)) (B : BsOk mg) (h0 : Ent P w K mg base 2 "_law_draw" 2 f_law_draw) (h1 : Ent P w K mg base 3 "_law_pick" 2 f_law_pick) (h2 : Ent P w K mg base 4 "_law_count" 1 f_law_count) : Ent P w K mg base 5 "_law_packet" 4 f_law_packet := by
  unfold f_law_packet
  exact ⟨fa, fd, ["pool", "records", "spots", "rows"], fn_tr (k := 4) F sc_law_packet (GAll.cons (h0.mono (by decide)) (GAll.cons (h1.mono (by decide)) (GAll.cons (h2.mono (by decide)) GAll.nil))) B CAll.nil t_law_packet, hm, F.kp, F.binds (ps := ["pool", "records", "spots", "rows"]) fun _ _ _ _ _ _ us hl => match us, hl with | [_, _, _, _], _ => rfl⟩
theorem sc_law_listed : FnScope ["bags", "spots", "rows", "k", "record"] ["bags", "spots"] (defScope s_law_listed) := ⟨rfl, rfl, rfl, by decide +kernel, rfl, by decide +kernel, by decide +kernel⟩
theorem t_law_listed : trSs 60 ⟨["bags", "spots", "rows", "k", "record"], defScope s_law_listed, fun _ => true, [], bs, [(170, 11, 13)], []⟩ (defBody s_law_listed) = some D_law_listed := by kernel_rfl
theorem e_law_listed {fa : Addr} {fd : FuncData} (F : Fun K "_law_listed" "_law_listed" s_law_listed fa fd) (hm : mg "_law_listed" = some (.ref fa)) (B : BsOk mg)  : Ent P w K mg base 1 "_law_listed" 2 f_law_listed := by
  unfold f_law_listed
  exact ⟨fa, fd, ["bags", "spots"], fn_tr (k := 0) F sc_law_listed GAll.nil B CAll.nil t_law_listed, hm, F.kp, F.binds (ps := ["bags", "spots"]) fun _ _ _ _ _ _ us hl => match us, hl with | [_, _], _ => rfl⟩
theorem sc_law_numbers : FnScope ["thing", "many", "part"] ["thing", "many"] (defScope s_law_numbers) := ⟨rfl, rfl, rfl, by decide +kernel, rfl, by decide +kernel, by decide +kernel⟩
theorem t_law_numbers : trSs 60 ⟨["thing", "many", "part"], defScope s_law_numbers, fun _ => true, [("_law_whole", 1, f_law_whole)], bs, [], []⟩ (defBody s_law_numbers) = some D_law_numbers := by kernel_rfl
theorem e_law_numbers {fa : Addr} {fd : FuncData} (F : Fun K "_law_numbers" "_law_numbers" s_law_numbers fa fd) (hm : mg "_law_numbers" = some (.ref fa)) (B : BsOk mg) (h0 : Ent P w K mg base 1 "_law_whole" 1 f_law_whole) : Ent P w K mg base 2 "_law_numbers" 2 f_law_numbers := by
  unfold f_law_numbers
  exact ⟨fa, fd, ["thing", "many"], fn_tr (k := 1) F sc_law_numbers (GAll.cons (h0.mono (by decide)) GAll.nil) B CAll.nil t_law_numbers, hm, F.kp, F.binds (ps := ["thing", "many"]) fun _ _ _ _ _ _ us hl => match us, hl with | [_, _], _ => rfl⟩
theorem sc_law_tidied : FnScope ["told", "width", "marks", "k", "row", "c"] ["told", "width", "marks"] (defScope s_law_tidied) := ⟨rfl, rfl, rfl, by decide +kernel, rfl, by decide +kernel, by decide +kernel⟩
theorem t_law_tidied : trSs 60 ⟨["told", "width", "marks", "k", "row", "c"], defScope s_law_tidied, fun _ => true, [("_law_whole", 1, f_law_whole), ("_law_numbers", 2, f_law_numbers)], bs, [], []⟩ (defBody s_law_tidied) = some D_law_tidied := by kernel_rfl
theorem e_law_tidied {fa : Addr} {fd : FuncData} (F : Fun K "_law_tidied" "_law_tidied" s_law_tidied fa fd) (hm : mg "_law_tidied" = some (.ref fa)) (B : BsOk mg) (h0 : Ent P w K mg base 1 "_law_whole" 1 f_law_whole) (h1 : Ent P w K mg base 2 "_law_numbers" 2 f_law_numbers) : Ent P w K mg base 3 "_law_tidied" 3 f_law_tidied := by
  unfold f_law_tidied
  exact ⟨fa, fd, ["told", "width", "marks"], fn_tr (k := 2) F sc_law_tidied (GAll.cons (h0.mono (by decide)) (GAll.cons (h1.mono (by decide)) GAll.nil)) B CAll.nil t_law_tidied, hm, F.kp, F.binds (ps := ["told", "width", "marks"]) fun _ _ _ _ _ _ us hl => match us, hl with | [_, _, _], _ => rfl⟩
theorem sc_law_ask : FnScope ["line", "row", "kept", "marks", "side", "handed", "bag", "record", "told", "first"] ["line", "row", "kept", "marks"] (defScope s_law_ask) := ⟨rfl, rfl, rfl, by decide +kernel, rfl, by decide +kernel, by decide +kernel⟩
theorem t_law_ask : trSs 60 ⟨["line", "row", "kept", "marks", "side", "handed", "bag", "record", "told", "first"], defScope s_law_ask, fun _ => true, [("join_step", 5, f_join_step), ("_law_tidied", 3, f_law_tidied), ("_law_same", 2, (f_law_same 6))], bs, [(196, 11, 53)], []⟩ (defBody s_law_ask) = some D_law_ask := by kernel_rfl
theorem e_law_ask {fa : Addr} {fd : FuncData} (F : Fun K "_law_ask" "_law_ask" s_law_ask fa fd) (hm : mg "_law_ask" = some (.ref fa)) (B : BsOk mg) (h0 : Ent P w K mg base 3 "join_step" 5 f_join_step) (h1 : Ent P w K mg base 3 "_law_tidied" 3 f_law_tidied) (h2 : Ent P w K mg base 13 "_law_same" 2 (f_law_same 6)) : Ent P w K mg base 14 "_law_ask" 4 f_law_ask := by
  unfold f_law_ask
  exact ⟨fa, fd, ["line", "row", "kept", "marks"], fn_tr (k := 13) F sc_law_ask (GAll.cons (h0.mono (by decide)) (GAll.cons (h1.mono (by decide)) (GAll.cons (h2.mono (by decide)) GAll.nil))) B CAll.nil t_law_ask, hm, F.kp, F.binds (ps := ["line", "row", "kept", "marks"]) fun _ _ _ _ _ _ us hl => match us, hl with | [_, _, _, _], _ => rfl⟩
theorem sc_law_joined : FnScope ["line", "left", "right", "made", "one", "two", "pair", "sides", "term"] ["line", "left", "right"] (defScope s_law_joined) := ⟨rfl, rfl, rfl, by decide +kernel, rfl, by decide +kernel, by decide +kernel⟩
theorem t_law_joined : trSs 60 ⟨["line", "left", "right", "made", "one", "two", "pair", "sides", "term"], defScope s_law_joined, fun _ => true, [("_law_add", 3, f_law_add)], bs, [(207, 11, 13)], []⟩ (defBody s_law_joined) = some D_law_joined := by kernel_rfl
theorem e_law_joined {fa : Addr} {fd : FuncData} (F : Fun K "_law_joined" "_law_joined" s_law_joined fa fd) (hm : mg "_law_joined" = some (.ref fa)) (B : BsOk mg) (h0 : Ent P w K mg base 1 "_law_add" 3 f_law_add) : Ent P w K mg base 2 "_law_joined" 3 f_law_joined := by
  unfold f_law_joined
  exact ⟨fa, fd, ["line", "left", "right"], fn_tr (k := 1) F sc_law_joined (GAll.cons (h0.mono (by decide)) GAll.nil) B CAll.nil t_law_joined, hm, F.kp, F.binds (ps := ["line", "left", "right"]) fun _ _ _ _ _ _ us hl => match us, hl with | [_, _, _], _ => rfl⟩
theorem sc_law : FnScope ["script", "pool", "wide", "line", "marks", "spots", "values", "k", "records", "brought", "spot", "so_far", "sums", "rows", "turn", "row", "side", "told", "record", "change"] ["script"] (defScope s_law) := ⟨rfl, rfl, rfl, by decide +kernel, rfl, by decide +kernel, by decide +kernel⟩
theorem t_law : trSs 60 ⟨["script", "pool", "wide", "line", "marks", "spots", "values", "k", "records", "brought", "spot", "so_far", "sums", "rows", "turn", "row", "side", "told", "record", "change"], defScope s_law, fun _ => true, [("_law_pool", 1, f_law_pool), ("_law_line", 2, f_law_line), ("_law_marks", 1, f_law_marks), ("_law_spots", 1, f_law_spots), ("_law_draw", 2, f_law_draw), ("_law_records", 3, f_law_records), ("_law_packet", 4, f_law_packet), ("_law_ask", 4, f_law_ask), ("_law_listed", 2, f_law_listed), ("_law_add", 3, f_law_add), ("_law_leq", 2, f_law_leq), ("_law_joined", 3, f_law_joined)], bs, [(215, 11, 28), (222, 16, 18), (222, 40, 42), (223, 15, 17), (223, 39, 41), (224, 12, 14), (225, 11, 13), (242, 15, 2000071)], []⟩ (defBody s_law) = some D_law := by kernel_rfl
theorem e_law {fa : Addr} {fd : FuncData} (F : Fun K "law" "law" s_law fa fd) (hm : mg "law" = some (.ref fa)) (B : BsOk mg) (h0 : Ent P w K mg base 2 "_law_pool" 1 f_law_pool) (h1 : Ent P w K mg base 4 "_law_line" 2 f_law_line) (h2 : Ent P w K mg base 4 "_law_marks" 1 f_law_marks) (h3 : Ent P w K mg base 1 "_law_spots" 1 f_law_spots) (h4 : Ent P w K mg base 2 "_law_draw" 2 f_law_draw) (h5 : Ent P w K mg base 4 "_law_records" 3 f_law_records) (h6 : Ent P w K mg base 5 "_law_packet" 4 f_law_packet) (h7 : Ent P w K mg base 14 "_law_ask" 4 f_law_ask) (h8 : Ent P w K mg base 1 "_law_listed" 2 f_law_listed) (h9 : Ent P w K mg base 1 "_law_add" 3 f_law_add) (h10 : Ent P w K mg base 1 "_law_leq" 2 f_law_leq) (h11 : Ent P w K mg base 2 "_law_joined" 3 f_law_joined) : Ent P w K mg base 15 "law" 1 f_law := by
  unfold f_law
  exact ⟨fa, fd, ["script"], fn_tr (k := 14) F sc_law (GAll.cons (h0.mono (by decide)) (GAll.cons (h1.mono (by decide)) (GAll.cons (h2.mono (by decide)) (GAll.cons (h3.mono (by decide)) (GAll.cons (h4.mono (by decide)) (GAll.cons (h5.mono (by decide)) (GAll.cons (h6.mono (by decide)) (GAll.cons (h7.mono (by decide)) (GAll.cons (h8.mono (by decide)) (GAll.cons (h9.mono (by decide)) (GAll.cons (h10.mono (by decide)) (GAll.cons (h11.mono (by decide)) GAll.nil)))))))))))) B CAll.nil t_law, hm, F.kp, F.binds (ps := ["script"]) fun _ _ _ _ _ _ us hl => match us, hl with | [_], _ => rfl⟩
end
end DL

namespace DL
open PySem L2
/-! C0: what the laws share: tuples of ints, orders, draws (pasted behind the terms of a law). -/
local macro_rules | `(tactic| walk_at "go") => `(tactic| repeat (first | refine wp_mb ?_ | with_reducible refine wp_mul (by first | assumption | (exact okMul_iff.mpr (by omega))) ?_ | with_reducible refine wp_mod (by first | assumption | (exact okMod_iff.mpr (by omega))) ?_ | with_reducible refine wp_div (by first | assumption | (exact okDiv_iff.mpr (by omega))) ?_ | with_reducible refine wp_pow (by first | assumption | (exact okPow_iff.mpr (by decide))) ?_ | ((with_reducible refine wp_set ?_ ?_ ?_); (focus rfl); (focus first | exact tT_lb | exact lb_int _ _ | exact lb_bl _ _ | exact lb_non _ | assumption)) | refine wp_eq rfl ?_))

/-! ### plain lists -/
def leqB : List Int → List Int → Bool
  | [], [] => true
  | x :: a, y :: b => decide (x ≤ y) && leqB a b
  | _, _ => false
theorem leqB_len : ∀ {a b : List Int}, a.length ≠ b.length → leqB a b = false
  | [], [], h => absurd rfl h
  | [], _ :: _, _ => rfl
  | _ :: _, [], _ => rfl
  | x :: a, y :: b, h => by
    rw [leqB, leqB_len (a := a) (b := b) (fun e => h (by rw [List.length_cons, List.length_cons, e])), Bool.and_false]
theorem leqB_drop {a b : List Int} {k : Nat} (ha : k < a.length) (hb : k < b.length) : leqB (a.drop k) (b.drop k) = (decide (a[k] ≤ b[k]) && leqB (a.drop (k + 1)) (b.drop (k + 1))) := by
  rw [List.drop_eq_getElem_cons ha, List.drop_eq_getElem_cons hb, leqB]
def lubL (a b : List Int) : List Int := List.zipWith max a b
def glbL (a b : List Int) : List Int := List.zipWith min a b
theorem lubL_len {a b : List Int} (h : a.length = b.length) : (lubL a b).length = a.length := by unfold lubL; rw [List.length_zipWith, h, Nat.min_self]
theorem glbL_len {a b : List Int} (h : a.length = b.length) : (glbL a b).length = a.length := by unfold glbL; rw [List.length_zipWith, h, Nat.min_self]
theorem leqB_lub : ∀ {a b t : List Int}, a.length = b.length → leqB (lubL a b) t = (leqB a t && leqB b t)
  | [], [], [], _ => rfl
  | [], [], _ :: _, _ => rfl
  | x :: a, y :: b, [], _ => rfl
  | x :: a, y :: b, z :: t, h => by
    show (decide (max x y ≤ z) && leqB (lubL a b) t) = ((decide (x ≤ z) && leqB a t) && (decide (y ≤ z) && leqB b t))
    rw [leqB_lub (a := a) (b := b) (t := t) (by simpa using h)]
    have e : decide (max x y ≤ z) = (decide (x ≤ z) && decide (y ≤ z)) := by
      rw [Bool.eq_iff_iff, Bool.and_eq_true, decide_eq_true_iff, decide_eq_true_iff, decide_eq_true_iff]
      omega
    rw [e]
    cases decide (x ≤ z) <;> cases decide (y ≤ z) <;> cases leqB a t <;> rfl
theorem leqB_glb : ∀ {t a b : List Int}, a.length = b.length → leqB t (glbL a b) = (leqB t a && leqB t b)
  | [], [], [], _ => rfl
  | _ :: _, [], [], _ => rfl
  | [], x :: a, y :: b, _ => rfl
  | z :: t, x :: a, y :: b, h => by
    show (decide (z ≤ min x y) && leqB t (glbL a b)) = ((decide (z ≤ x) && leqB t a) && (decide (z ≤ y) && leqB t b))
    rw [leqB_glb (a := a) (b := b) (t := t) (by simpa using h)]
    have e : decide (z ≤ min x y) = (decide (z ≤ x) && decide (z ≤ y)) := by
      rw [Bool.eq_iff_iff, Bool.and_eq_true, decide_eq_true_iff, decide_eq_true_iff, decide_eq_true_iff]
      omega
    rw [e]
    cases decide (z ≤ x) <;> cases decide (z ≤ y) <;> cases leqB t a <;> rfl

/-! ### pieces over tuples of ints -/
theorem eqv_int (x y : Int) : (PyData.int x).eqv (PyData.int y) = (x == y) := by rw [PyData.eqv]
theorem tup_ix {a : List Int} {k : Nat} (h : k < a.length) {st : Sto} : opIx (tT a) (.int ((0 : Int) + (k : Int))) st = some (.int a[k], st) := by
  show (atI (a.map PV.int) ((0 : Int) + (k : Int))).map (fun v => (v, st)) = _
  rw [Int.zero_add, atI_nat (j := k) (v := .int a[k]) (by rw [List.getElem?_map, List.getElem?_eq_getElem h]; rfl)]
  rfl
theorem rng_get {n k : Nat} {x : PV} (h : (rng 0 (n : Int))[k]? = some x) : k < n ∧ x = .int ((0 : Int) + (k : Int)) := by
  unfold rng at h
  rw [Int.sub_zero, Int.toNat_natCast, List.getElem?_map] at h
  by_cases q : k < n
  · rw [List.getElem?_range q] at h
    cases h
    exact ⟨q, rfl⟩
  · rw [List.getElem?_eq_none (by rw [List.length_range]; omega)] at h
    cases h
theorem rng_len {n : Nat} : (rng 0 (n : Int)).length = n := by
  unfold rng
  rw [Int.sub_zero, Int.toNat_natCast, List.length_map, List.length_range]
theorem okR {n : Nat} (h : n ≤ 1000000) : okRng (n : Int) = true := okRng_iff.mpr ⟨by omega, by omega⟩
theorem okL {n : Nat} (h : n ≤ 1000000) : n ≤ sizeLine := Nat.le_trans h (by decide)
theorem max_if (i j : Int) : (if j > i then j else i) = max i j := by
  by_cases h : j > i
  · rw [if_pos h]; omega
  · rw [if_neg h]; omega
theorem min_if (i j : Int) : (if j < i then j else i) = min i j := by
  by_cases h : j < i
  · rw [if_pos h]; omega
  · rw [if_neg h]; omega
theorem mkT_eq {xs : List PV} {st : Sto} (h : xs.length ≤ sizeLine) : mkT xs st = some (.tup xs, st) := if_pos h
theorem mkV_eq {xs : List PV} {st : Sto} (h : xs.length ≤ sizeLine) : mkL false xs st = some (.lst xs, st) := by
  unfold mkL
  rw [if_pos h, if_neg (by decide)]
theorem mkM_eq {xs : List PV} {st : Sto} (h : xs.length ≤ sizeLine) (hb : lbs st.nxt xs = true) : mkL true xs st = some (.loc st.nxt, st.alloc (.lst xs)) := by
  unfold mkL
  rw [if_pos h, if_pos rfl, if_pos hb]
theorem sort2 (x y : Int) : sortI [x, y] = [min x y, max x y] := by
  refine (sortI_uniq (ns := [x, y]) ?_ ?_).symm
  · by_cases h : x ≤ y
    · rw [Int.min_eq_left h, Int.max_eq_right h]
    · rw [Int.min_eq_right (by omega), Int.max_eq_left (by omega)]
      exact List.Perm.swap _ _ _
  · simp only [List.pairwise_cons, List.mem_singleton, List.not_mem_nil, List.Pairwise.nil]
    refine ⟨fun z h => by subst h; omega, fun _ h => h.elim, trivial⟩

/-! C0b: draws -/
def mixI (x k : Int) : Int :=
  ((((x * 48271 + k * 69621 + 11) % 2147483647) * ((x * 48271 + k * 69621 + 11) % 2147483647) + k * 7919 + 5) % 2147483629 * ((((x * 48271 + k * 69621 + 11) % 2147483647) * ((x * 48271 + k * 69621 + 11) % 2147483647) + k * 7919 + 5) % 2147483629) + k * 40692 + 3) % 2147483587
theorem mix_eq {x k : Int} {st : Sto} : f_law_mix [.int x, .int k] st = some (.int (mixI x k), st) := by
  unfold f_law_mix
  refine runF_eq rfl (lb_int _ _) ?_
  show wp (D_law_mix [some (.int x), some (.int k)] st) _
  unfold D_law_mix
  walk_at "go"
  exact ⟨rfl, rfl⟩
theorem mix_pos {x k : Int} : 0 ≤ mixI x k := Int.emod_nonneg _ (by decide)

theorem ints_lb {n : Nat} {P : List Int} : (Cell.lst (P.map .int)).lb n = true := lbs_map (fun i => lb_int n i) P
/-- a pool of draws stands at p -/
def Pool (p : Nat) (st : Sto) : Prop := ∃ P : List Int, st.cs p = some (.lst (P.map .int)) ∧ 2 ≤ P.length
/-- only the pool at p may have changed -/
def Dr (p : Nat) (st st' : Sto) : Prop := ∃ P : List Int, st' = st.set p (.lst (P.map .int)) ∧ 2 ≤ P.length
theorem Pool.dr {p : Nat} {st st' : Sto} (h : Pool p st) (d : Dr p st st') : Pool p st' := by
  obtain ⟨P, hP, _⟩ := h
  obtain ⟨P', rfl, h2⟩ := d
  exact ⟨P', Sto.set_get hP ints_lb, h2⟩
theorem Dr.refl {p : Nat} {st : Sto} (h : Pool p st) : Dr p st st := by
  obtain ⟨P, hP, h2⟩ := h
  exact ⟨P, (Sto.set_self hP).symm, h2⟩
theorem Dr.trans {p : Nat} {st st1 st2 : Sto} (a : Dr p st st1) (b : Dr p st1 st2) : Dr p st st2 := by
  obtain ⟨P, rfl, _⟩ := a
  obtain ⟨P', rfl, h⟩ := b
  exact ⟨P', by rw [Sto.set_set ints_lb], h⟩
theorem Dr.get {p l : Nat} {st st' : Sto} (d : Dr p st st') (h : l ≠ p) : st'.cs l = st.cs l := by
  obtain ⟨P, rfl, _⟩ := d
  exact Sto.set_ne h
theorem Dr.nxt {p : Nat} {st st' : Sto} (d : Dr p st st') : st'.nxt = st.nxt := by
  obtain ⟨P, rfl, _⟩ := d
  rfl
theorem Pool.lt {p : Nat} {st : Sto} (h : Pool p st) : p < st.nxt := by
  obtain ⟨P, hP, _⟩ := h
  exact Sto.lt_of hP
theorem Dr.restr {p : Nat} {st st' : Sto} (d : Dr p st st') : st'.restr st.nxt = st' := by rw [← d.nxt, Sto.restr_self]
theorem ints_get {P : List Int} {k : Nat} (h : k < P.length) : (P.map PV.int)[k]? = some (.int P[k]) := by
  rw [List.getElem?_map, List.getElem?_eq_getElem h]; rfl
theorem ints_at {P : List Int} {k : Nat} (h : k < P.length) : atI (P.map PV.int) (k : Int) = some (.int P[k]) := atI_nat (ints_get h)
theorem draw_wp {p : Nat} {st : Sto} {lim : Int} {Q : PV → Sto → Prop} (h : Pool p st) (hl : 0 < lim) (q : ∀ r st', 0 ≤ r → r < lim → Dr p st st' → Q (.int r) st') : wp (f_law_draw [.loc p, .int lim] st) Q := by
  obtain ⟨P, hP, h2⟩ := h
  unfold f_law_draw
  refine wp_runF rfl ?_
  show wp (D_law_draw [some (.loc p), some (.int lim)] st) _
  have fin' : ∀ (r : Int) (P' : List Int), 2 ≤ P'.length → Q (.int (r % lim)) ((st.set p (.lst (P'.map .int))).restr st.nxt) := fun r P' h' =>
    q _ _ (Int.emod_nonneg _ (by omega)) (Int.emod_lt_of_pos _ hl) ⟨P', Sto.restr_self (st.set p (.lst (P'.map .int))), h'⟩
  unfold D_law_draw
  walk_at "go"
  refine wp_eq (loc_len hP) ?_
  walk_at "go"
  rw [List.length_map]
  refine wp_if (fun h3 => ?_) (fun h3 => ?_)
  · have h3 : 2 < P.length := by
      have := of_decide_eq_true h3
      omega
    walk_at "go"
    refine wp_eq (loc_asL hP) ?_
    walk_at "go"
    refine wp_eq (loc_pop hP (v := .int (P[P.length - 1]'(by omega))) (by rw [List.length_map]; exact ints_get (by omega))) ?_
    walk_at "go"
    rw [← List.map_dropLast]
    exact fin' _ _ (by rw [List.length_dropLast]; omega)
  · walk_at "go"
    refine wp_eq (loc_ix hP (ints_at (k := 1) (by omega))) ?_
    walk_at "go"
    refine wp_eq (a := [some (.loc p), some (.int lim)]) (s := st.set p (.lst ((P.set 1 (P[1] + 1)).map .int))) ?_ ?_
    · rw [loc_set hP (i := 1) (j := 1) (by rw [List.length_map]; unfold ixN; rw [if_pos (by decide), if_pos (by omega)]; rfl) (lb_int _ _), ← List.map_set]
      rfl
    have hP1 : (st.set p (.lst ((P.set 1 (P[1] + 1)).map .int))).cs p = some (.lst ((P.set 1 (P[1] + 1)).map .int)) := Sto.set_get hP ints_lb
    have hl1 : (P.set 1 (P[1] + 1)).length = P.length := List.length_set
    generalize P.set 1 (P[1] + 1) = P1 at hP1 hl1 ⊢
    walk_at "go"
    refine wp_eq (loc_ix hP1 (ints_at (k := 0) (by omega))) ?_
    walk_at "go"
    refine wp_eq (loc_ix hP1 (ints_at (k := 1) (by omega))) ?_
    walk_at "go"
    refine wp_eq (loc_ix hP1 (ints_at (k := 1) (by omega))) ?_
    walk_at "go"
    refine wp_eq mix_eq ?_
    walk_at "go"
    exact fin' _ _ (by omega)
theorem pick_wp {p : Nat} {st : Sto} {v : PV} {xs : List PV} {Q : PV → Sto → Prop} (h : Pool p st) (hx : ∀ st', Dr p st st' → seqOf st' v = some xs) (hne : 0 < xs.length) (hlb : ∀ x ∈ xs, x.lb 0 = true) (q : ∀ x st', x ∈ xs → Dr p st st' → Q x st') : wp (f_law_pick [.loc p, v] st) Q := by
  unfold f_law_pick
  refine wp_runF rfl ?_
  show wp (D_law_pick [some (.loc p), some v] st) _
  unfold D_law_pick
  walk_at "go"
  refine wp_eq (seq_len (hx st (.refl h))) ?_
  walk_at "go"
  refine draw_wp h (by omega) fun r st' h0 h1 d => ?_
  refine wp_set (by rw [d.nxt]) (lb_int _ _) ?_
  obtain ⟨k, rfl⟩ := Int.eq_ofNat_of_zero_le h0
  have hk : k < xs.length := by omega
  have hs := hx st' d
  refine wp_eq (seq_ix hs (atI_nat (List.getElem?_eq_getElem hk))) ?_
  walk_at "go"
  refine wp_eq (fin_val (PV.lb_mono (Nat.zero_le _) (hlb _ (List.getElem_mem hk)))) ?_
  rw [d.restr]
  exact q _ _ (List.getElem_mem hk) d
end DL

namespace DL
open PySem L2
local macro_rules | `(tactic| walk_at "go") => `(tactic| repeat (first | refine wp_mb ?_ | with_reducible refine wp_mul (by first | assumption | (exact okMul_iff.mpr (by omega))) ?_ | with_reducible refine wp_mod (by first | assumption | (exact okMod_iff.mpr (by omega))) ?_ | with_reducible refine wp_div (by first | assumption | (exact okDiv_iff.mpr (by omega))) ?_ | with_reducible refine wp_pow (by first | assumption | (exact okPow_iff.mpr (by decide))) ?_ | ((with_reducible refine wp_set ?_ ?_ ?_); (focus rfl); (focus first | exact tT_lb | exact lb_int _ _ | exact lb_bl _ _ | exact lb_non _ | assumption)) | refine wp_eq rfl ?_))
/-! C0c: the pool is made; the law's own comparison -/
theorem add_lst {m : Bool} {a b : List PV} {y : PV} {st : Sto} (h : lstOf st y = some b) : opAdd m (.lst a) y st = mkL m (a ++ b) st := by
  have e : opAdd m (.lst a) y st = (match lstOf st (.lst a), lstOf st y with | some a, some b => mkL m (a ++ b) st | _, _ => none) := by
    cases y <;> rfl
  rw [e, h]
  rfl
theorem lst_loc {l : Nat} {st : Sto} {xs : List PV} (h : st.cs l = some (.lst xs)) : lstOf st (.loc l) = some xs := by
  show (match st.cs l with | some (.lst xs) => some xs | _ => none) = _
  rw [h]
theorem alloc_snoc {st : Sto} {P : List Int} {x : Int} : (st.alloc (.lst (P.map .int))).set st.nxt (.lst (P.map .int ++ [.int x])) = st.alloc (.lst ((P ++ [x]).map .int)) := by
  have e : (P.map PV.int ++ [.int x]) = (P ++ [x]).map .int := by rw [List.map_append]; rfl
  rw [e, Sto.alloc_set ints_lb ints_lb]
theorem pool_wp {ns : List Int} {st : Sto} {Q : PV → Sto → Prop} (h : ns.length ≤ 63) (q : ∀ P : List Int, 2 ≤ P.length → Q (.loc st.nxt) (st.alloc (.lst (P.map .int)))) : wp (f_law_pool [.ro (ns.map .int)] st) Q := by
  unfold f_law_pool
  refine wp_runF rfl ?_
  show wp (D_law_pool [some (.ro (ns.map .int)), none, none, none, none, none] st) _
  unfold D_law_pool
  refine wp_mb (wp_mb (wp_mb (wp_eq rfl ?_)))
  refine wp_eq (mkM_eq (by decide) (lbs_nil _)) ?_
  walk_at "go"
  have h63 : ¬ (63 : Int) < (ns.length : Int) := by omega
  rw [List.length_map, if_neg h63]
  refine wp_pos (okR (n := ns.length) (by omega)) ?_
  walk_at "go"
  refine forGo_wp (its := ⟨rng 0 (ns.length : Int), none⟩) (fun k env s => ∃ (state : Int) (u3 u4 u5 : Option PV) (P : List Int), env = [some (.ro (ns.map .int)), some (.loc st.nxt), some (.int state), u3, u4, u5] ∧ s = st.alloc (.lst (P.map .int)) ∧ P.length ≤ 60 * k) _ (fun k x env s hx hI => ?_) (fun env s hI => ?_) ⟨_, none, none, none, [], rfl, rfl, Nat.zero_le _⟩
  · obtain ⟨state, u3, u4, u5, P, rfl, rfl, hP⟩ := hI
    obtain ⟨hk, rfl⟩ := rng_get hx
    refine ⟨Its.ok_none, wp_eq rfl ?_⟩
    walk_at "go"
    refine wp_eq (seq_ix rfl (i := (0 : Int) + (k : Int)) (x := .int ns[k]) (by rw [Int.zero_add]; exact ints_at hk)) ?_
    walk_at "go"
    refine wp_eq mix_eq ?_
    walk_at "go"
    generalize hc : (if ns[k] < 0 then -ns[k] else ns[k]) = cell
    refine wp_if (fun h1 => ?_) (fun h1 => ?_)
    · walk_at "go"
      refine wp_pos (okRng_iff.mpr ⟨by decide, by decide⟩) ?_
      walk_at "go"
      refine forGo_wp (its := ⟨rng 0 ((60 : Nat) : Int), none⟩) (fun j env s => ∃ (state cell : Int) (u3 u5 : Option PV) (P : List Int), env = [some (.ro (ns.map .int)), some (.loc st.nxt), some (.int state), u3, some (.int cell), u5] ∧ s = st.alloc (.lst (P.map .int)) ∧ P.length ≤ 60 * k + j) _ (fun j x env s hx hI => ?_) (fun env s hI => ?_) ⟨_, _, _, _, P, rfl, rfl, by omega⟩
      · obtain ⟨state, cell, u3, u5, P, rfl, rfl, hP⟩ := hI
        obtain ⟨hj, rfl⟩ := rng_get hx
        refine ⟨Its.ok_none, wp_eq rfl ?_⟩
        walk_at "go"
        refine wp_if (fun h1 => ?_) (fun h1 => ?_)
        · walk_at "go"
          refine wp_eq (loc_asL (Sto.alloc_get ints_lb)) ?_
          walk_at "go"
          refine wp_eq (loc_append (Sto.alloc_get ints_lb) (by rw [List.length_map, sizeLine_eq]; omega) (lb_int _ _)) ?_
          walk_at "go"
          refine ⟨_, _, _, _, P ++ [cell % 1000], rfl, ?_, by rw [List.length_append, List.length_singleton]; omega⟩
          exact alloc_snoc
        · walk_at "go"
          exact ⟨_, _, _, _, P, rfl, rfl, by omega⟩
      · obtain ⟨state, cell, u3, u5, P, rfl, rfl, hP⟩ := hI
        rw [rng_len] at hP
        refine ⟨Its.ok_none, ?_⟩
        exact ⟨_, _, _, _, P, rfl, rfl, by omega⟩
    · walk_at "go"
      refine wp_pos (okRng_iff.mpr ⟨by decide, by decide⟩) ?_
      walk_at "go"
      refine forGo_wp (its := ⟨rng 0 ((3 : Nat) : Int), none⟩) (fun j env s => ∃ (u5 : Option PV) (P : List Int), env = [some (.ro (ns.map .int)), some (.loc st.nxt), some (.int (mixI (state + cell % 1000000007) (0 + (k : Int)))), some (.int (0 + (k : Int))), some (.int cell), u5] ∧ s = st.alloc (.lst (P.map .int)) ∧ P.length ≤ 60 * k + j) _ (fun j x env s hx hI => ?_) (fun env s hI => ?_) ⟨_, P, rfl, rfl, by omega⟩
      · obtain ⟨u5, P, rfl, rfl, hP⟩ := hI
        obtain ⟨hj, rfl⟩ := rng_get hx
        refine ⟨Its.ok_none, wp_eq rfl ?_⟩
        walk_at "go"
        refine wp_eq (loc_asL (Sto.alloc_get ints_lb)) ?_
        walk_at "go"
        refine wp_eq mix_eq ?_
        walk_at "go"
        refine wp_eq (loc_append (Sto.alloc_get ints_lb) (by rw [List.length_map, sizeLine_eq]; omega) (lb_int _ _)) ?_
        walk_at "go"
        refine ⟨_, P ++ [mixI (cell + 65537 * (0 + (k : Int))) (0 + (j : Int))], rfl, ?_, by rw [List.length_append, List.length_singleton]; omega⟩
        exact alloc_snoc
      · obtain ⟨u5, P, rfl, rfl, hP⟩ := hI
        rw [rng_len] at hP
        refine ⟨Its.ok_none, ?_⟩
        exact ⟨_, _, _, _, P, rfl, rfl, by omega⟩
  · obtain ⟨state, u3, u4, u5, P, rfl, rfl, hP⟩ := hI
    rw [rng_len] at hP
    refine ⟨Its.ok_none, ?_⟩
    walk_at "go"
    refine wp_eq (loc_asL (Sto.alloc_get ints_lb)) ?_
    walk_at "go"
    refine wp_eq (loc_reverse (Sto.alloc_get ints_lb)) ?_
    rw [Sto.alloc_set ints_lb (by rw [← List.map_reverse]; exact ints_lb)]
    walk_at "go"
    rw [← List.map_reverse, add_lst (lst_loc (Sto.alloc_get ints_lb))]
    have e : [PV.int state, PV.int 0] ++ P.reverse.map PV.int = (state :: 0 :: P.reverse).map PV.int := rfl
    rw [e]
    refine wp_eq (mkM_eq (by rw [List.length_map, sizeLine_eq]; simp; omega) (lbs_map (fun i => lb_int _ i) _)) ?_
    walk_at "go"
    refine wp_eq (fin_loc (by rw [Sto.alloc_nxt]; omega) (Sto.alloc_get ints_lb) ints_lb) ?_
    rw [Sto.restr_alloc (by rw [Sto.alloc_nxt]; omega), Sto.restr_alloc (Nat.le_refl _), Sto.restr_self]
    exact q _ (by simp)

/-! the law's own == -/
def plainP : Nat → PV → Bool
  | _, .non => true
  | _, .bl _ => true
  | _, .int _ => true
  | d + 1, .tup xs => decide (xs.length ≤ 1000000) && xs.all (plainP d)
  | d + 1, .lst xs => decide (xs.length ≤ 1000000) && xs.all (plainP d)
  | _, _ => false
theorem derf_cases {st : Sto} {t v : PV} (h : derf st t = v) : t = v ∨ ∃ l c, t = .loc l ∧ st.cs l = some c ∧ v = c.val := by
  unfold derf at h
  split at h
  · rename_i l
    split at h
    · rename_i c hc
      exact .inr ⟨l, c, rfl, hc, h.symm⟩
    · exact .inl h
  · exact .inl h
theorem derf_atom {st : Sto} {t v : PV} (h : derf st t = v) (hv : ∀ c : Cell, v ≠ c.val) : t = v := by
  rcases derf_cases h with h | ⟨l, c, _, _, h⟩
  · exact h
  · exact absurd h (hv c)
theorem plain_derf {st : Sto} {d : Nat} {v : PV} (h : plainP d v = true) : derf st v = v := by
  cases v with
  | loc l => cases d <;> exact absurd (show false = true from h) Bool.false_ne_true
  | _ => rfl
theorem whole_int {i : Int} {st : Sto} : f_law_whole [.int i] st = some (.bl true, st) := by
  unfold f_law_whole
  refine runF_eq rfl (lb_bl _ _) ?_
  show wp (D_law_whole [some (.int i)] st) _
  unfold D_law_whole
  walk_at "go"
  exact ⟨rfl, rfl⟩
theorem lst_facts {st : Sto} {t : PV} {xs : List PV} (h : derf st t = .lst xs) : seqOf st t = some xs ∧ (∀ b, isTy b st t = some (b == BTy.list)) ∧ isNonP t = false ∧ (∀ s, t ≠ .str s) := by
  rcases derf_cases h with rfl | ⟨l, c, rfl, hc, e⟩
  · exact ⟨rfl, fun b => rfl, rfl, fun _ z => by cases z⟩
  · cases c with
    | lst ys =>
      cases e
      refine ⟨?_, fun b => ?_, rfl, fun _ z => by cases z⟩
      · show (match st.cs l with | some (.lst xs) => some xs | _ => none) = _
        rw [hc]
      · show (match st.cs l with | some (.lst _) => some (b == BTy.list) | some (.dct _ _ _) => some (b == BTy.dict) | _ => none) = _
        rw [hc]
    | dct _ _ _ => cases e
    | dki _ _ => cases e
theorem isi_eq {b : BTy} {t : PV} {st : Sto} {r : Bool} (h : isTy b st t = some r) : bIsi b t st = some (.bl r, st) := by
  unfold bIsi
  rw [h]; rfl
theorem eqv_bool (x y : Bool) : (PyData.bool x).eqv (PyData.bool y) = (x == y) := by rw [PyData.eqv]
theorem eqv_str (x y : Str) : (PyData.str x).eqv (PyData.str y) = (x == y) := by rw [PyData.eqv]
/-- both are the same list or tuple: item by item -/
theorem same_seq {self : FSem} {told due : PV} {xs : List PV} {st : Sto} {ty : BTy} (hz : xs.length ≤ 1000000) (hty : ty = .list ∨ ty = .tuple) (h1 : seqOf st told = some xs) (h2 : seqOf st due = some xs) (t1 : ∀ b, isTy b st told = some (b == ty)) (t2 : ∀ b, isTy b st due = some (b == ty)) (n2 : isNonP due = false)
    (hs : ∀ x ∈ xs, self [x, x] st = some (.bl true, st)) : runF 4 2 (D_law_same self) [told, due] st = some (.bl true, st) := by
  refine runF_eq rfl (lb_bl _ _) ?_
  show wp (D_law_same self [some told, some due, none, none] st) _
  have b1 : (BTy.bool == ty) = false := by rcases hty with rfl | rfl <;> rfl
  have b2 : (BTy.int == ty) = false := by rcases hty with rfl | rfl <;> rfl
  have b3 : (BTy.str == ty) = false := by rcases hty with rfl | rfl <;> rfl
  have b4 : (BTy.dict == ty) = false := by rcases hty with rfl | rfl <;> rfl
  unfold D_law_same
  walk_at "go"
  rw [n2]
  walk_at "go"
  refine wp_eq (isi_eq (t2 .bool)) ?_
  rw [b1]
  walk_at "go"
  refine wp_eq (isi_eq (t2 .int)) ?_
  rw [b2]
  walk_at "go"
  refine wp_eq (isi_eq (t2 .str)) ?_
  rw [b3]
  walk_at "go"
  refine wp_eq (isi_eq (t2 .dict)) ?_
  rw [b4]
  walk_at "go"
  refine wp_eq (isi_eq (t2 .list)) ?_
  walk_at "go"
  refine wp_eq (isi_eq (t1 .list)) ?_
  walk_at "go"
  rw [eqv_bool, beq_self_eq_true]
  walk_at "go"
  refine wp_eq (isi_eq (t2 .tuple)) ?_
  walk_at "go"
  refine wp_eq (isi_eq (t1 .tuple)) ?_
  walk_at "go"
  rw [eqv_bool, beq_self_eq_true]
  walk_at "go"
  refine wp_eq (seq_len h1) ?_
  walk_at "go"
  refine wp_eq (seq_len h2) ?_
  walk_at "go"
  rw [eqv_int, beq_self_eq_true]
  walk_at "go"
  refine wp_eq (seq_len h2) ?_
  walk_at "go"
  refine wp_pos (okR hz) ?_
  walk_at "go"
  refine forGo_wp (its := ⟨rng 0 (xs.length : Int), none⟩) (fun k env s => s = st ∧ ∃ u2 u3, env = [some told, some due, u2, u3]) _ (fun k x env s hx hI => ?_) (fun env s hI => ?_) ⟨rfl, _, _, rfl⟩
  · obtain ⟨rfl, u2, u3, rfl⟩ := hI
    obtain ⟨hk, rfl⟩ := rng_get hx
    refine ⟨Its.ok_none, wp_eq rfl ?_⟩
    walk_at "go"
    have hat : atI xs ((0 : Int) + (k : Int)) = some xs[k] := by rw [Int.zero_add]; exact atI_nat (List.getElem?_eq_getElem hk)
    refine wp_eq (seq_ix h1 hat) ?_
    walk_at "go"
    refine wp_eq (seq_ix h2 hat) ?_
    walk_at "go"
    refine wp_eq (hs _ (List.getElem_mem hk)) ?_
    walk_at "go"
    exact ⟨rfl, _, _, rfl⟩
  · obtain ⟨rfl, u2, u3, rfl⟩ := hI
    refine ⟨Its.ok_none, ?_⟩
    walk_at "go"
    exact ⟨rfl, rfl⟩
theorem same_true : ∀ (d : Nat) {told due v : PV} {st : Sto}, derf st told = v → derf st due = v → plainP d v = true → r_law_same (d + 1) [told, due] st = some (.bl true, st) := by
  intro d
  induction d with
  | zero =>
    intro told due v st h1 h2 hp
    cases v with
    | non =>
      cases derf_atom h1 (fun c z => by cases c <;> cases z)
      cases derf_atom h2 (fun c z => by cases c <;> cases z)
      refine runF_eq rfl (lb_bl _ _) ?_
      show wp (D_law_same _ [some .non, some .non, none, none] st) _
      unfold D_law_same
      walk_at "go"
      exact ⟨rfl, rfl⟩
    | bl b =>
      cases derf_atom h1 (fun c z => by cases c <;> cases z)
      cases derf_atom h2 (fun c z => by cases c <;> cases z)
      refine runF_eq rfl (lb_bl _ _) ?_
      show wp (D_law_same _ [some (.bl b), some (.bl b), none, none] st) _
      unfold D_law_same
      walk_at "go"
      rw [eqv_bool, beq_self_eq_true]
      exact ⟨rfl, rfl⟩
    | int i =>
      cases derf_atom h1 (fun c z => by cases c <;> cases z)
      cases derf_atom h2 (fun c z => by cases c <;> cases z)
      refine runF_eq rfl (lb_bl _ _) ?_
      show wp (D_law_same _ [some (.int i), some (.int i), none, none] st) _
      unfold D_law_same
      walk_at "go"
      refine wp_eq whole_int ?_
      walk_at "go"
      rw [eqv_int, beq_self_eq_true]
      exact ⟨rfl, rfl⟩
    | _ => exact absurd (show false = true from hp) Bool.false_ne_true
  | succ d ih =>
    intro told due v st h1 h2 hp
    have up : ∀ {d : Nat} {t u w : PV} {st : Sto}, plainP 0 w = true → derf st t = w → derf st u = w → r_law_same (d + 1) [t, u] st = some (.bl true, st) := by
      intro d t u w st hp h1 h2
      cases w with
      | non =>
        cases derf_atom h1 (fun c z => by cases c <;> cases z)
        cases derf_atom h2 (fun c z => by cases c <;> cases z)
        refine runF_eq rfl (lb_bl _ _) ?_
        show wp (D_law_same _ [some .non, some .non, none, none] st) _
        unfold D_law_same
        walk_at "go"
        exact ⟨rfl, rfl⟩
      | bl b =>
        cases derf_atom h1 (fun c z => by cases c <;> cases z)
        cases derf_atom h2 (fun c z => by cases c <;> cases z)
        refine runF_eq rfl (lb_bl _ _) ?_
        show wp (D_law_same _ [some (.bl b), some (.bl b), none, none] st) _
        unfold D_law_same
        walk_at "go"
        rw [eqv_bool, beq_self_eq_true]
        exact ⟨rfl, rfl⟩
      | int i =>
        cases derf_atom h1 (fun c z => by cases c <;> cases z)
        cases derf_atom h2 (fun c z => by cases c <;> cases z)
        refine runF_eq rfl (lb_bl _ _) ?_
        show wp (D_law_same _ [some (.int i), some (.int i), none, none] st) _
        unfold D_law_same
        walk_at "go"
        refine wp_eq whole_int ?_
        walk_at "go"
        rw [eqv_int, beq_self_eq_true]
        exact ⟨rfl, rfl⟩
      | _ => exact absurd (show false = true from hp) Bool.false_ne_true
    cases v with
    | tup xs =>
      cases derf_atom h1 (fun c z => by cases c <;> cases z)
      cases derf_atom h2 (fun c z => by cases c <;> cases z)
      rw [plainP, Bool.and_eq_true, decide_eq_true_iff, List.all_eq_true] at hp
      exact same_seq hp.1 (.inr rfl) rfl rfl (fun b => rfl) (fun b => rfl) rfl fun x hx => ih (plain_derf (hp.2 x hx)) (plain_derf (hp.2 x hx)) (hp.2 x hx)
    | lst xs =>
      rw [plainP, Bool.and_eq_true, decide_eq_true_iff, List.all_eq_true] at hp
      obtain ⟨a1, a2, a3, _⟩ := lst_facts h1
      obtain ⟨b1, b2, b3, _⟩ := lst_facts h2
      exact same_seq hp.1 (.inl rfl) a1 b1 a2 b2 b3 fun x hx => ih (plain_derf (hp.2 x hx)) (plain_derf (hp.2 x hx)) (hp.2 x hx)
    | non => exact up rfl h1 h2
    | bl _ => exact up rfl h1 h2
    | int _ => exact up rfl h1 h2
    | _ => exact absurd (show false = true from hp) Bool.false_ne_true
theorem same_ok {told due v : PV} {st : Sto} (h1 : derf st told = v) (h2 : derf st due = v) (hp : plainP 5 v = true) : f_law_same 6 [told, due] st = some (.bl true, st) := by
  unfold f_law_same
  exact same_true 5 h1 h2 hp
theorem plain_tT {d : Nat} {a : List Int} (h : a.length ≤ 1000000) : plainP (d + 1) (tT a) = true := by
  show (decide ((a.map PV.int).length ≤ 1000000) && (a.map PV.int).all (plainP d)) = true
  rw [List.length_map, decide_eq_true h, List.all_map]
  rw [List.all_eq_true.mpr (fun x _ => by cases d <;> rfl)]
  rfl
theorem plain_int {d : Nat} {i : Int} : plainP d (.int i) = true := by cases d <;> rfl
theorem plain_bl {d : Nat} {i : Bool} : plainP d (.bl i) = true := by cases d <;> rfl
theorem plain_non {d : Nat} : plainP d .non = true := by cases d <;> rfl
end DL

namespace DL
open PySem L2
local macro_rules | `(tactic| walk_at "go") => `(tactic| repeat (first | refine wp_mb ?_ | with_reducible refine wp_mul (by first | assumption | (exact okMul_iff.mpr (by omega))) ?_ | with_reducible refine wp_mod (by first | assumption | (exact okMod_iff.mpr (by omega))) ?_ | with_reducible refine wp_div (by first | assumption | (exact okDiv_iff.mpr (by omega))) ?_ | with_reducible refine wp_pow (by first | assumption | (exact okPow_iff.mpr (by decide))) ?_ | ((with_reducible refine wp_set ?_ ?_ ?_); (focus rfl); (focus first | exact tT_lb | exact lb_int _ _ | exact lb_bl _ _ | exact lb_non _ | assumption)) | refine wp_eq rfl ?_))
/-! C1s: more that the laws share -/
theorem zip_get {f : Int → Int → Int} {a b : List Int} {k : Nat} (ha : k < a.length) (hb : k < b.length) : ((List.zipWith f a b).map PV.int)[k]? = some (.int (f a[k] b[k])) := by
  rw [List.getElem?_map, List.getElem?_zipWith, List.getElem?_eq_getElem ha, List.getElem?_eq_getElem hb]
  rfl
theorem bTuple_lst {xs : List PV} {st : Sto} (h : xs.length ≤ 1000000) : bTuple [.lst xs] st = some (.tup xs, st) := mkT_eq (okL h)
theorem law_leq_eq {a b : List Int} (h : a.length = b.length) (ha : a.length ≤ 1000) {st : Sto} : f_law_leq [tT a, tT b] st = some (.bl (leqB a b), st) := by
  unfold f_law_leq
  refine runF_eq rfl (lb_bl _ _) ?_
  show wp (D_law_leq [some (tT a), some (tT b), none] st) _
  unfold D_law_leq
  walk_at "go"
  rw [List.length_map]
  refine wp_pos (okR (by omega)) ?_
  walk_at "go"
  refine wp_eq (lc_rng ((List.zipWith (fun x y => decide (x ≤ y)) a b).map .bl) (by rw [List.length_map, List.length_zipWith]; omega) fun k hk => ⟨_, .bl (decide (a[k] ≤ b[k])), rfl, ?_, eq_of_wp ?_⟩) ?_
  · rw [List.getElem?_map, List.getElem?_zipWith, List.getElem?_eq_getElem hk, List.getElem?_eq_getElem (by omega)]
    rfl
  · walk_at "go"
    rw [tup_ix hk]
    walk_at "go"
    rw [tup_ix (a := b) (by omega)]
    walk_at "go"
    exact ⟨rfl, rfl⟩
  · refine wp_eq (mkV_eq (okL (by rw [List.length_map, List.length_zipWith]; omega))) ?_
    refine wp_eq (a := .bl (leqB a b)) (s := st) ?_ (wp_ret ⟨rfl, rfl⟩)
    have flat : ∀ l : List Bool, (l.map PV.bl).all flatP = true := fun l => by rw [List.all_map, List.all_eq_true]; intro _ _; rfl
    have anyf : ∀ l : List Bool, ((l.map PV.bl).any fun z => eqP z (.bl false)) = !(l.all id) := fun l => by
      induction l with
      | nil => rfl
      | cons x l ih =>
        rw [List.map_cons, List.any_cons, ih, List.all_cons]
        cases x <;> cases l.all id <;> rfl
    have key : ∀ a b : List Int, a.length = b.length → (List.zipWith (fun x y => decide (x ≤ y)) a b).all id = leqB a b := by
      intro a
      induction a with
      | nil => intro b h; cases b with
        | nil => rfl
        | cons _ _ => cases h
      | cons x a ih => intro b h; cases b with
        | nil => cases h
        | cons y b =>
          rw [List.zipWith_cons_cons, List.all_cons, ih b (by simpa using h), leqB]
          rfl
    show (if (flatP (.bl false) && ((List.zipWith (fun x y => decide (x ≤ y)) a b).map PV.bl).all flatP) = true then some (PV.bl ((((List.zipWith (fun x y => decide (x ≤ y)) a b).map PV.bl).any fun z => eqP z (.bl false)) != true), st) else _) = _
    rw [flat, if_pos (show (flatP (.bl false) && true) = true from rfl), anyf, key a b h]
    cases leqB a b <;> rfl
theorem add_tup {m : Bool} {a b : List PV} {st : Sto} (h : a.length + b.length ≤ 1000000) : opAdd m (.tup a) (.tup b) st = some (.tup (a ++ b), st) := by
  show (if a.length + b.length ≤ sizeLine then some (PV.tup (a ++ b), st) else none) = _
  rw [if_pos (okL h)]
theorem add_tT {m : Bool} {a b : List Int} {st : Sto} (h : a.length + b.length ≤ 1000000) : opAdd m (tT a) (tT b) st = some (tT (a ++ b), st) := by
  show opAdd m (.tup (a.map .int)) (.tup (b.map .int)) st = _
  rw [add_tup (by rw [List.length_map, List.length_map]; exact h), ← List.map_append]
  rfl
theorem sIx_to {n k d : Nat} : HT.sIx n d (some (k : Int)) = min k n := HT.sIx_nat n d k
theorem cut_from {xs : List PV} {k : Nat} (h : k ≤ xs.length) : cutP xs (some (k : Int)) none = xs.drop k := by
  unfold cutP
  rw [sIx_to, HT.sIx_none, Nat.min_eq_left h]
  exact List.take_of_length_le (by rw [List.length_drop]; omega)
theorem cut_to {xs : List PV} {k : Nat} (h : k ≤ xs.length) : cutP xs none (some (k : Int)) = xs.take k := by
  unfold cutP
  rw [sIx_to, HT.sIx_none, Nat.min_eq_left h, Nat.sub_zero, List.drop_zero]
theorem seq_of_lst {v : PV} {st : Sto} {xs : List PV} (h : lstOf st v = some xs) : seqOf st v = some xs := by
  cases v with
  | lst ys => exact h
  | loc l => exact h
  | _ => cases h
theorem derf_of_lst {v : PV} {st : Sto} {xs : List PV} (h : lstOf st v = some xs) : derf st v = .lst xs := by
  cases v with
  | lst ys => cases h; rfl
  | loc l =>
    have h : (match st.cs l with | some (.lst xs) => some xs | _ => none) = some xs := h
    show (match st.cs l with | some c => c.val | none => .loc l) = _
    split at h
    · rename_i hl
      cases h
      rw [hl]; rfl
    · cases h
  | _ => cases h
theorem intsOf_map (l : List Int) : intsOf (l.map .int) = some l := by
  induction l with
  | nil => rfl
  | cons x l ih => rw [List.map_cons, intsOf, ih]; rfl

theorem get_map {α : Type} {f : α → PV} {l : List α} {k : Nat} {x : PV} (h : (l.map f)[k]? = some x) : ∃ y, l[k]? = some y ∧ y ∈ l ∧ x = f y := by
  rw [List.getElem?_map] at h
  cases hk : l[k]? with
  | none => rw [hk] at h; cases h
  | some y => rw [hk] at h; cases h; exact ⟨y, rfl, List.mem_of_getElem? hk, rfl⟩
theorem bMin_ints {l : List Int} {st : Sto} (h : l ≠ []) : bMin [.lst (l.map .int)] st = some (.int (minL l), st) := by
  show (match intsOf (l.map .int) with | some (i :: r) => some (PV.int (minL (i :: r)), st) | _ => none) = _
  rw [intsOf_map]
  cases l with
  | nil => exact absurd rfl h
  | cons x r => rfl
theorem bList_v {v : PV} {xs : List PV} {st : Sto} (h : seqOf st v = some xs) (hz : xs.length ≤ 1000000) : bList false [v] st = some (.lst xs, st) := by
  show (match seqOf st v with | some xs => mkL false xs st | none => none) = _
  rw [h]
  exact mkV_eq (okL hz)
theorem pool_new {P : List Int} {st : Sto} (h : 2 ≤ P.length) : Pool st.nxt (st.alloc (.lst (P.map .int))) := ⟨P, Sto.alloc_get ints_lb, h⟩
theorem Pool.alloc {p : Nat} {st : Sto} {c : Cell} (h : Pool p st) : Pool p (st.alloc c) := by
  obtain ⟨P, hP, h2⟩ := h
  have : p < st.nxt := Sto.lt_of hP
  exact ⟨P, by rw [Sto.alloc_ne (by omega)]; exact hP, h2⟩
theorem Pool.set {p l : Nat} {st : Sto} {c : Cell} (h : Pool p st) (hl : l ≠ p) : Pool p (st.set l c) := by
  obtain ⟨P, hP, h2⟩ := h
  exact ⟨P, by rw [Sto.set_ne (Ne.symm hl)]; exact hP, h2⟩
/-! C1t: tuples, pieces -/
theorem tup_nat {a : List Int} {i : Int} {k : Nat} (hi : i = (k : Int)) (h : k < a.length) {st : Sto} : opIx (tT a) (.int i) st = some (.int a[k], st) := by
  subst hi
  exact seq_ix (v := tT a) rfl (ints_at h)
theorem cutT_to {a : List Int} {i : Int} {k : Nat} (hi : i = (k : Int)) (h : k ≤ a.length) : cutP (a.map PV.int) none (some i) = (a.take k).map PV.int := by
  subst hi
  rw [cut_to (by rw [List.length_map]; exact h), List.map_take]
theorem cutT_from {a : List Int} {i : Int} {k : Nat} (hi : i = (k : Int)) (h : k ≤ a.length) : cutP (a.map PV.int) (some i) none = (a.drop k).map PV.int := by
  subst hi
  rw [cut_from (by rw [List.length_map]; exact h), List.map_drop]
theorem getD_at {a : List Int} {k : Nat} (h : k < a.length) : a.getD k 0 = a[k] := by rw [List.getD_eq_getElem?_getD, List.getElem?_eq_getElem h]; rfl
theorem cutL_to {xs : List PV} {i : Int} {k : Nat} (hi : i = (k : Int)) (h : k ≤ xs.length) : cutP xs none (some i) = xs.take k := by
  subst hi
  exact cut_to h
theorem cutL_from {xs : List PV} {i : Int} {k : Nat} (hi : i = (k : Int)) (h : k ≤ xs.length) : cutP xs (some i) none = xs.drop k := by
  subst hi
  exact cut_from h
end DL

namespace DL
open PySem L2
/-! E: == and in over tuples of ints -/
theorem toDs_ints {cs : Nat → Option Cell} : ∀ a : List Int, toDs cs (a.map .int) = some (a.map PyData.int)
  | [] => by rw [List.map_nil, toDs]; rfl
  | x :: a => by rw [List.map_cons, toDs, PV.toD, toDs_ints a]; rfl
theorem toD_tT {cs : Nat → Option Cell} {a : List Int} : (tT a).toD cs = some (.tuple (a.map PyData.int)) := by
  unfold tT
  rw [PV.toD, toDs_ints]; rfl
theorem toDs_rows {cs : Nat → Option Cell} : ∀ ks : List (List Int), toDs cs (ks.map tT) = some (ks.map fun a => PyData.tuple (a.map PyData.int))
  | [] => by rw [List.map_nil, toDs]; rfl
  | x :: a => by rw [List.map_cons, toDs, toD_tT, toDs_rows a]; rfl
theorem eqvA_ints : ∀ a b : List Int, PyData.eqvAll (a.map PyData.int) (b.map PyData.int) = decide (a = b)
  | [], [] => by rw [List.map_nil, PyData.eqvAll]; rfl
  | [], y :: b => by rw [List.map_nil, List.map_cons, PyData.eqvAll]; rfl
  | x :: a, [] => by rw [List.map_nil, List.map_cons, PyData.eqvAll]; rfl
  | x :: a, y :: b => by
    rw [List.map_cons, List.map_cons, PyData.eqvAll, PyData.eqv, eqvA_ints a b]
    by_cases h : x = y
    · subst h; simp
    · simp [h]
theorem eqv_tT (a b : List Int) : (PyData.tuple (a.map PyData.int)).eqv (.tuple (b.map PyData.int)) = decide (a = b) := by
  rw [PyData.eqv, eqvA_ints]
theorem eqvA_rows : ∀ a b : List (List Int), PyData.eqvAll (a.map fun k => PyData.tuple (k.map PyData.int)) (b.map fun k => PyData.tuple (k.map PyData.int)) = decide (a = b)
  | [], [] => by rw [List.map_nil, PyData.eqvAll]; rfl
  | [], y :: b => by rw [List.map_nil, List.map_cons, PyData.eqvAll]; rfl
  | x :: a, [] => by rw [List.map_nil, List.map_cons, PyData.eqvAll]; rfl
  | x :: a, y :: b => by
    rw [List.map_cons, List.map_cons, PyData.eqvAll, eqv_tT, eqvA_rows a b]
    by_cases h : x = y
    · subst h; simp
    · simp [h]
theorem lay_ints : ∀ a : List Int, PyData.canLayAll0 (a.map PyData.int) = true ∧ PyData.depthAll (a.map PyData.int) = 0
  | [] => by rw [List.map_nil, PyData.canLayAll0, PyData.depthAll]; exact ⟨rfl, rfl⟩
  | x :: a => by
    obtain ⟨h1, h2⟩ := lay_ints a
    rw [List.map_cons, PyData.canLayAll0, PyData.depthAll, h1, h2, PyData.canLay0, PyData.depth]
    exact ⟨rfl, rfl⟩
theorem shaped_tT (a : List Int) : SeqAt.shaped (.tuple (a.map PyData.int)) = true := by
  obtain ⟨h1, h2⟩ := lay_ints a
  unfold SeqAt.shaped
  rw [PyData.canLay0, PyData.depth, h1, h2]
  rfl
theorem lay_rows : ∀ a : List (List Int), PyData.canLayAll0 (a.map fun k => PyData.tuple (k.map PyData.int)) = true ∧ PyData.depthAll (a.map fun k => PyData.tuple (k.map PyData.int)) ≤ 1
  | [] => by rw [List.map_nil, PyData.canLayAll0, PyData.depthAll]; exact ⟨rfl, by omega⟩
  | x :: a => by
    obtain ⟨h1, h2⟩ := lay_rows a
    obtain ⟨h3, h4⟩ := lay_ints x
    rw [List.map_cons, PyData.canLayAll0, PyData.depthAll, h1, PyData.canLay0, PyData.depth, h3, h4]
    exact ⟨rfl, by omega⟩
theorem shaped_rows (a : List (List Int)) : SeqAt.shaped (.list (a.map fun k => PyData.tuple (k.map PyData.int))) = true := by
  obtain ⟨h1, h2⟩ := lay_rows a
  unfold SeqAt.shaped
  rw [PyData.canLay0, PyData.depth, h1, decide_eq_true (show _ ≤ 64 by omega)]
  rfl
theorem cmpEq_tT {neg : Bool} {a b : List Int} {st : Sto} : cmpEq neg (tT a) (tT b) st = some (.bl (decide (a = b) != neg), st) := by
  unfold cmpEq
  show (match (tT a).toD st.cs, (tT b).toD st.cs with | some d, some e => if SeqAt.shaped d && SeqAt.shaped e then some (PV.bl (PyData.eqv d e != neg), st) else none | _, _ => none) = _
  rw [toD_tT, toD_tT]
  show (if SeqAt.shaped (.tuple (a.map PyData.int)) && SeqAt.shaped (.tuple (b.map PyData.int)) then _ else _) = _
  rw [shaped_tT, shaped_tT, eqv_tT]
  rfl
theorem cmpEq_rows {neg : Bool} {x y : PV} {as bs : List (List Int)} {st : Sto} (h1 : derf st x = .lst (as.map tT)) (h2 : derf st y = .lst (bs.map tT)) : cmpEq neg x y st = some (.bl (decide (as = bs) != neg), st) := by
  unfold cmpEq
  rw [h1, h2, PV.toD, PV.toD, toDs_rows, toDs_rows]
  show (if SeqAt.shaped (.list (as.map fun k => PyData.tuple (k.map PyData.int))) && SeqAt.shaped (.list (bs.map fun k => PyData.tuple (k.map PyData.int))) then some (PV.bl (PyData.eqv (.list (as.map fun k => PyData.tuple (k.map PyData.int))) (.list (bs.map fun k => PyData.tuple (k.map PyData.int))) != neg), st) else none) = _
  rw [shaped_rows, shaped_rows, PyData.eqv, eqvA_rows]
  rfl
theorem seq_lst {st : Sto} {y : PV} {xs : List PV} (h : lstOf st y = some xs) : seqOf st y = some xs := by
  cases y with
  | lst ys => exact h
  | loc l => exact h
  | _ => cases h
/-! E2: == and in over rows of any make -/
structure EqE (α : Type) [DecidableEq α] where
  p : α → PV
  d : α → PyData
  m : Nat
  pd : ∀ (a : α) (cs : Nat → Option Cell), (p a).toD cs = some (d a)
  lay : ∀ a, (d a).canLay0 = true
  dep : ∀ a, (d a).depth ≤ m
  eq : ∀ a b, (d a).eqv (d b) = decide (a = b)
namespace EqE
variable {α β γ : Type} [DecidableEq α] [DecidableEq β] [DecidableEq γ] (E : EqE α) (F : EqE β) (G : EqE γ)
theorem toDs_eq {cs : Nat → Option Cell} : ∀ l : List α, toDs cs (l.map E.p) = some (l.map E.d)
  | [] => by rw [List.map_nil, toDs]; rfl
  | a :: l => by rw [List.map_cons, toDs, E.pd, toDs_eq l]; rfl
theorem lay_all : ∀ l : List α, PyData.canLayAll0 (l.map E.d) = true
  | [] => by rw [List.map_nil, PyData.canLayAll0]
  | a :: l => by rw [List.map_cons, PyData.canLayAll0, E.lay, lay_all l]; rfl
theorem dep_all : ∀ l : List α, PyData.depthAll (l.map E.d) ≤ E.m
  | [] => by rw [List.map_nil, PyData.depthAll]; exact Nat.zero_le _
  | a :: l => by
    rw [List.map_cons, PyData.depthAll]
    have := E.dep a
    have := dep_all l
    omega
theorem eqv_all : ∀ a b : List α, PyData.eqvAll (a.map E.d) (b.map E.d) = decide (a = b)
  | [], [] => by rw [List.map_nil, PyData.eqvAll]; rfl
  | [], y :: b => by rw [List.map_nil, List.map_cons, PyData.eqvAll]; rfl
  | x :: a, [] => by rw [List.map_nil, List.map_cons, PyData.eqvAll]; rfl
  | x :: a, y :: b => by
    rw [List.map_cons, List.map_cons, PyData.eqvAll, E.eq, eqv_all a b]
    by_cases h : x = y
    · subst h; simp
    · simp [h]
def int : EqE Int where
  p := .int
  d := .int
  m := 0
  pd := fun a cs => by rw [PV.toD]
  lay := fun a => by rw [PyData.canLay0]
  dep := fun a => by rw [PyData.depth]; exact Nat.le_refl _
  eq := fun a b => by rw [PyData.eqv]; by_cases h : a = b <;> simp [h]
def tup : EqE (List α) where
  p := fun l => .tup (l.map E.p)
  d := fun l => .tuple (l.map E.d)
  m := E.m + 1
  pd := fun a cs => by rw [PV.toD, E.toDs_eq]; rfl
  lay := fun a => by rw [PyData.canLay0, E.lay_all]
  dep := fun a => by rw [PyData.depth]; have := E.dep_all a; omega
  eq := fun a b => by rw [PyData.eqv, E.eqv_all]
def list : EqE (List α) where
  p := fun l => .lst (l.map E.p)
  d := fun l => .list (l.map E.d)
  m := E.m + 1
  pd := fun a cs => by rw [PV.toD, E.toDs_eq]; rfl
  lay := fun a => by rw [PyData.canLay0, E.lay_all]
  dep := fun a => by rw [PyData.depth]; have := E.dep_all a; omega
  eq := fun a b => by rw [PyData.eqv, E.eqv_all]
def pair : EqE (α × β) where
  p := fun x => .tup [E.p x.1, F.p x.2]
  d := fun x => .tuple [E.d x.1, F.d x.2]
  m := max E.m F.m + 1
  pd := fun x cs => by rw [PV.toD, toDs, toDs, toDs, E.pd, F.pd]; rfl
  lay := fun x => by rw [PyData.canLay0, PyData.canLayAll0, PyData.canLayAll0, PyData.canLayAll0, E.lay, F.lay]; rfl
  dep := fun x => by
    rw [PyData.depth, PyData.depthAll, PyData.depthAll, PyData.depthAll]
    have := E.dep x.1
    have := F.dep x.2
    omega
  eq := fun x y => by
    rw [PyData.eqv, PyData.eqvAll, PyData.eqvAll, PyData.eqvAll, E.eq, F.eq]
    by_cases h1 : x.1 = y.1
    · by_cases h2 : x.2 = y.2
      · simp [h1, h2, Prod.ext_iff]
      · simp [h1, h2, Prod.ext_iff]
    · simp [h1, Prod.ext_iff]
def tri : EqE (α × β × γ) where
  p := fun x => .tup [E.p x.1, F.p x.2.1, G.p x.2.2]
  d := fun x => .tuple [E.d x.1, F.d x.2.1, G.d x.2.2]
  m := max E.m (max F.m G.m) + 1
  pd := fun x cs => by rw [PV.toD, toDs, toDs, toDs, toDs, E.pd, F.pd, G.pd]; rfl
  lay := fun x => by rw [PyData.canLay0, PyData.canLayAll0, PyData.canLayAll0, PyData.canLayAll0, PyData.canLayAll0, E.lay, F.lay, G.lay]; rfl
  dep := fun x => by
    rw [PyData.depth, PyData.depthAll, PyData.depthAll, PyData.depthAll, PyData.depthAll]
    have := E.dep x.1
    have := F.dep x.2.1
    have := G.dep x.2.2
    omega
  eq := fun x y => by
    rw [PyData.eqv, PyData.eqvAll, PyData.eqvAll, PyData.eqvAll, PyData.eqvAll, E.eq, F.eq, G.eq]
    by_cases h1 : x.1 = y.1
    · by_cases h2 : x.2.1 = y.2.1
      · by_cases h3 : x.2.2 = y.2.2
        · simp [h1, h2, h3, Prod.ext_iff]
        · simp [h1, h2, h3, Prod.ext_iff]
      · simp [h1, h2, Prod.ext_iff]
    · simp [h1, Prod.ext_iff]
theorem derf_p {st : Sto} (a : α) : derf st (E.p a) = E.p a := by
  have h := E.pd a st.cs
  cases e : E.p a with
  | loc l => rw [e, PV.toD] at h; cases h
  | _ => rfl
theorem shaped (hm : E.m ≤ 64) (a : α) : SeqAt.shaped (E.d a) = true := by
  unfold SeqAt.shaped
  rw [E.lay, decide_eq_true (show (E.d a).depth ≤ 64 from Nat.le_trans (E.dep a) hm)]
  rfl
theorem cmpEq {neg : Bool} {x y : PV} {a b : α} {st : Sto} (h1 : derf st x = E.p a) (h2 : derf st y = E.p b) (hm : E.m ≤ 64) : DL.cmpEq neg x y st = some (.bl (decide (a = b) != neg), st) := by
  unfold DL.cmpEq
  rw [h1, h2, E.pd, E.pd]
  show (if SeqAt.shaped (E.d a) && SeqAt.shaped (E.d b) then some (PV.bl (PyData.eqv (E.d a) (E.d b) != neg), st) else none) = _
  rw [E.shaped hm, E.shaped hm, E.eq]
  rfl
theorem mem_any (a : α) : ∀ l : List α, ((l.map E.d).any fun z => PyData.eqv z (E.d a)) = decide (a ∈ l)
  | [] => rfl
  | b :: l => by
    rw [List.map_cons, List.any_cons, E.eq, mem_any a l]
    by_cases h : b = a
    · subst h; simp
    · have h2 : ¬ a = b := fun z => h z.symm
      simp [h, h2]
theorem cmpIn {neg : Bool} {y : PV} {a : α} {l : List α} {st : Sto} (h : lstOf st y = some (l.map E.p)) (hf : flatP (E.p a) = false) (hm : E.m ≤ 60) : DL.cmpIn neg (E.p a) y st = some (.bl (decide (a ∈ l) != neg), st) := by
  have hd : dctOf st y = none := by
    cases y with
    | loc l =>
      have h : (match st.cs l with | some (.lst xs) => some xs | _ => none) = _ := h
      show (match st.cs l with | some (.dct ks vs _) => some (ks, vs) | _ => none) = none
      split at h
      · rename_i e; rw [e]
      · cases h
    | dct _ _ => cases h
    | _ => rfl
  have hs : seqOf st y = some (l.map E.p) := by
    cases y with
    | lst ys => exact h
    | loc l => exact h
    | _ => cases h
  have hk : dkiOf st y = none := by
    cases y with
    | loc l =>
      have h : (match st.cs l with | some (.lst xs) => some xs | _ => none) = _ := h
      show (match st.cs l with | some (.dki ks vs) => some (ks, vs) | _ => none) = none
      split at h
      · rename_i e; rw [e]
      · cases h
    | dki _ _ => cases h
    | _ => rfl
  unfold DL.cmpIn
  rw [hk, hd]
  show cmpInS neg (E.p a) y st = _
  unfold cmpInS
  rw [hs]
  show (if (flatP (E.p a) && (l.map E.p).all flatP) = true then _ else _) = _
  rw [hf, Bool.false_and, if_neg Bool.false_ne_true, h]
  show (match (derf st (E.p a)).toD st.cs, toDs st.cs (l.map E.p) with | some d, some ds => if SeqAt.shaped d && SeqAt.shaped (.list ds) then some (PV.bl ((ds.any fun z => PyData.eqv z d) != neg), st) else none | _, _ => none) = _
  rw [E.derf_p, E.pd, E.toDs_eq]
  show (if SeqAt.shaped (E.d a) && SeqAt.shaped (.list (l.map E.d)) then some (PV.bl (((l.map E.d).any fun z => PyData.eqv z (E.d a)) != neg), st) else none) = _
  rw [E.shaped (by omega), show SeqAt.shaped (.list (l.map E.d)) = true from E.list.shaped (by show E.m + 1 ≤ 64; omega) l, E.mem_any]
  rfl
end EqE
/-! Ord: rows that are sorted, rows that are keys of dicts (no program) -/
/-- a kind of rows: as values, as data, as keys -/
structure Enc (α : Type) where
  p : α → PV
  d : α → PyData
  k : α → NestedKey
  pd : ∀ (a : α) (cs : Nat → Option Cell), (p a).toD cs = some (d a)
  pk : ∀ a, NK (p a) = some (k a)
  tp : ∀ a, ∃ xs, p a = .tup xs
  nt : ∀ a, noText (k a) = true
  dp : ∀ a, (k a).depth ≤ 8
  al : ∀ a b, PySem.W.alike (d a) (d b) = true
  dd : ∀ a, (d a).depth ≤ 30
  ki : ∀ a b, PySem.W.keyToks (d a) = PySem.W.keyToks (d b) → a = b
  ni : ∀ a b, k a = k b → a = b
namespace Enc
variable {α : Type} (E : Enc α)
def le (a b : α) : Bool := !PySem.W.dataLt (E.d b) (E.d a)
theorem tot (a b : α) : (E.le a b || E.le b a) = true := by
  unfold le
  cases h : PySem.W.dataLt (E.d b) (E.d a) with
  | false => rfl
  | true =>
    cases h2 : PySem.W.dataLt (E.d a) (E.d b) with
    | false => rfl
    | true =>
      have := PyProof.Rows.lex_trans _ _ _ h h2
      rw [PyProof.Rows.lex_irrefl] at this
      cases this
theorem tr (a b c : α) (h1 : E.le a b = true) (h2 : E.le b c = true) : E.le a c = true := by
  unfold le at *
  rw [Bool.not_eq_true'] at *
  cases h : PySem.W.dataLt (E.d c) (E.d a) with
  | false => rfl
  | true =>
    rcases PyProof.Rows.lex_negTrans _ (PySem.W.keyToks (E.d b)) _ h with h | h
    · have h2 : PyProof.Rows.lexLt PyProof.Rows.itemOrd (PySem.W.keyToks (E.d c)) (PySem.W.keyToks (E.d b)) = false := h2
      rw [h] at h2; cases h2
    · have h1 : PyProof.Rows.lexLt PyProof.Rows.itemOrd (PySem.W.keyToks (E.d b)) (PySem.W.keyToks (E.d a)) = false := h1
      rw [h] at h1; cases h1
theorem an {a b : α} (h1 : E.le a b = true) (h2 : E.le b a = true) : a = b := by
  unfold le at *
  rw [Bool.not_eq_true'] at *
  exact E.ki a b (PyProof.Rows.lex_total _ _ h2 h1)
theorem leP_eq (a b : α) : leP (E.p a) (E.p b) = E.le a b := by
  unfold leP
  rw [E.pd, E.pd]
  rfl
theorem toDs_eq {cs : Nat → Option Cell} : ∀ l : List α, toDs cs (l.map E.p) = some (l.map E.d)
  | [] => by rw [List.map_nil, toDs]; rfl
  | a :: l => by rw [List.map_cons, toDs, E.pd, toDs_eq l]; rfl
def sort (l : List α) : List α := l.mergeSort E.le
theorem sort_perm (l : List α) : (E.sort l).Perm l := List.mergeSort_perm _ _
theorem sort_sorted (l : List α) : (E.sort l).Pairwise fun a b => E.le a b = true := List.pairwise_mergeSort (E.tr) (E.tot) l
theorem sort_mem {l : List α} {a : α} : a ∈ E.sort l ↔ a ∈ l := (E.sort_perm l).mem_iff
theorem sort_len (l : List α) : (E.sort l).length = l.length := (E.sort_perm l).length_eq
theorem sortGo_eq {m : Bool} {l : List α} {st : Sto} (hz : l.length ≤ sizeLine) (hne : ∀ a ∈ l, ∃ x r, E.d a = .tuple (x :: r)) : sortGo m (l.map E.p) st = mkL m ((E.sort l).map E.p) st := by
  unfold sortGo
  rw [E.toDs_eq]
  have ok : okSort (l.map E.d) = true := by
    rw [okSort_iff]
    refine ⟨fun d hd d' hd' => ?_, .inl fun d hd => ?_, by rw [List.length_map]; exact hz, fun d hd => ?_⟩
    · obtain ⟨a, _, rfl⟩ := List.mem_map.mp hd
      obtain ⟨b, _, rfl⟩ := List.mem_map.mp hd'
      exact E.al a b
    · obtain ⟨a, ha, rfl⟩ := List.mem_map.mp hd
      exact hne a ha
    · obtain ⟨a, _, rfl⟩ := List.mem_map.mp hd
      exact E.dd a
  show (if okSort (l.map E.d) then mkL m ((l.map E.p).mergeSort leP) st else none) = _
  rw [if_pos ok]
  have e : (l.map E.p).mergeSort leP = (E.sort l).map E.p := by
    unfold sort
    exact (List.map_mergeSort fun a _ b _ => (E.leP_eq a b).symm).symm
  rw [e]
theorem sorted_eq {m : Bool} {l : List α} {v : PV} {st : Sto} (hv : lstOf st v = some (l.map E.p)) (hz : l.length ≤ sizeLine) (hne : ∀ a ∈ l, ∃ x r, E.d a = .tuple (x :: r)) : bSorted m [v] st = mkL m ((E.sort l).map E.p) st := by
  show (match lstOf st v with | some xs => sortGo m xs st | none => _) = _
  rw [hv]
  exact E.sortGo_eq hz hne
/-- sorted rows, each once, are what their members are -/
theorem uniq : ∀ {a b : List α}, a.Pairwise (fun x y => E.le x y = true) → b.Pairwise (fun x y => E.le x y = true) → a.Nodup → b.Nodup → (∀ x, x ∈ a ↔ x ∈ b) → a = b
  | [], [], _, _, _, _, _ => rfl
  | [], y :: b, _, _, _, _, h => absurd ((h y).mpr List.mem_cons_self) (by simp)
  | x :: a, [], _, _, _, _, h => absurd ((h x).mp List.mem_cons_self) (by simp)
  | x :: a, y :: b, sa, sb, na, nb, h => by
    rw [List.pairwise_cons] at sa sb
    rw [List.nodup_cons] at na nb
    have e : x = y := by
      rcases List.mem_cons.mp ((h x).mp List.mem_cons_self) with e | hx
      · exact e
      · rcases List.mem_cons.mp ((h y).mpr List.mem_cons_self) with e | hy
        · exact e.symm
        · exact E.an (sa.1 y hy) (sb.1 x hx)
    subst e
    rw [uniq sa.2 sb.2 na.2 nb.2 fun z => ?_]
    constructor
    · intro hz
      rcases List.mem_cons.mp ((h z).mp (List.mem_cons_of_mem _ hz)) with e | hz2
      · exact absurd (e ▸ hz) na.1
      · exact hz2
    · intro hz
      rcases List.mem_cons.mp ((h z).mpr (List.mem_cons_of_mem _ hz)) with e | hz2
      · exact absurd (e ▸ hz) nb.1
      · exact hz2
theorem isTK_eq (a : α) : isTK (E.p a) = true := by
  obtain ⟨xs, hx⟩ := E.tp a
  have h := E.pk a
  rw [hx] at h ⊢
  show (match NK (.tup xs) with | some k => noText k && decide (k.depth ≤ 8) | none => false) = true
  rw [h]
  show (noText (E.k a) && decide ((E.k a).depth ≤ 8)) = true
  rw [E.nt, decide_eq_true (E.dp a)]; rfl
theorem good (l : List α) (a : α) : goodK (l.map E.p) (E.p a) = true := by
  rw [goodK_iff]
  refine ⟨fun x hx => ?_, E.isTK_eq a⟩
  obtain ⟨b, _, rfl⟩ := List.mem_map.mp hx
  exact E.isTK_eq b
theorem keyEq_eq [DecidableEq α] (a b : α) : keyEq (E.p a) (E.p b) = decide (a = b) := by
  rw [keyEq_iff (E.pk a) (E.pk b)]
  by_cases h : a = b
  · subst h; simp
  · rw [decide_eq_false h, decide_eq_false fun z => h (E.ni a b z)]
theorem lb0 (a : α) : (E.p a).lb 0 = true := nk_lb (E.pk a)
theorem lb (a : α) {n : Nat} : (E.p a).lb n = true := PV.lb_mono (Nat.zero_le _) (E.lb0 a)
end Enc
/-! tables -/
section
variable {α β : Type} [DecidableEq α]
def aget (k : α) : List (α × β) → Option β
  | [] => none
  | x :: r => if x.1 = k then some x.2 else aget k r
def aput (k : α) (v : β) : List (α × β) → List (α × β)
  | [] => [(k, v)]
  | x :: r => if x.1 = k then (x.1, v) :: r else x :: aput k v r
theorem aget_put (k j : α) (v : β) : ∀ D : List (α × β), aget j (aput k v D) = if k = j then some v else aget j D
  | [] => by
    show (if k = j then some v else none) = _
    rfl
  | x :: r => by
    show aget j (if x.1 = k then (x.1, v) :: r else x :: aput k v r) = _
    by_cases e : x.1 = k
    · rw [if_pos e]
      subst e
      show (if x.1 = j then some v else aget j r) = (if x.1 = j then some v else if x.1 = j then some x.2 else aget j r)
      by_cases f : x.1 = j
      · rw [if_pos f, if_pos f]
      · rw [if_neg f, if_neg f, if_neg f]
    · rw [if_neg e]
      show (if x.1 = j then some x.2 else aget j (aput k v r)) = (if k = j then some v else if x.1 = j then some x.2 else aget j r)
      rw [aget_put k j v r]
      by_cases f : x.1 = j
      · rw [if_pos f, if_pos f, if_neg (fun z => e (f.trans z.symm))]
      · rw [if_neg f, if_neg f]
theorem akeys_put (k : α) (v : β) : ∀ D : List (α × β), ∀ j, j ∈ (aput k v D).map (·.1) ↔ j = k ∨ j ∈ D.map (·.1)
  | [], j => by
    show j ∈ [k] ↔ _
    simp
  | x :: r, j => by
    show j ∈ (if x.1 = k then (x.1, v) :: r else x :: aput k v r).map (·.1) ↔ _
    by_cases e : x.1 = k
    · rw [if_pos e, List.map_cons, List.map_cons, List.mem_cons]
      subst e
      constructor
      · intro h; exact .inr h
      · intro h
        rcases h with h | h
        · exact .inl h
        · exact h
    · rw [if_neg e, List.map_cons, List.map_cons, List.mem_cons, List.mem_cons, akeys_put k v r j]
      constructor
      · rintro (h | h | h)
        · exact .inr (.inl h)
        · exact .inl h
        · exact .inr (.inr h)
      · rintro (h | h | h)
        · exact .inr (.inl h)
        · exact .inl h
        · exact .inr (.inr h)
theorem anodup_put (k : α) (v : β) : ∀ D : List (α × β), (D.map (·.1)).Nodup → ((aput k v D).map (·.1)).Nodup
  | [], _ => by
    show [k].Nodup
    simp
  | x :: r, h => by
    rw [List.map_cons, List.nodup_cons] at h
    show ((if x.1 = k then (x.1, v) :: r else x :: aput k v r).map (·.1)).Nodup
    by_cases e : x.1 = k
    · rw [if_pos e, List.map_cons, List.nodup_cons]
      exact h
    · rw [if_neg e, List.map_cons, List.nodup_cons]
      refine ⟨fun z => ?_, anodup_put k v r h.2⟩
      rcases (akeys_put k v r _).mp z with z | z
      · exact e z
      · exact h.1 z
theorem aput_len (k : α) (v : β) : ∀ D : List (α × β), (aput k v D).length ≤ D.length + 1
  | [] => Nat.le_refl _
  | x :: r => by
    show (if x.1 = k then (x.1, v) :: r else x :: aput k v r).length ≤ _
    split
    · rw [List.length_cons, List.length_cons]; omega
    · have := aput_len k v r
      rw [List.length_cons, List.length_cons]; omega
theorem aget_mem {k : α} : ∀ {D : List (α × β)}, (aget k D).isSome = true ↔ k ∈ D.map (·.1)
  | [] => by simp [aget]
  | x :: r => by
    show (if x.1 = k then some x.2 else aget k r).isSome = true ↔ _
    rw [List.map_cons, List.mem_cons]
    by_cases e : x.1 = k
    · rw [if_pos e]
      exact ⟨fun _ => .inl e.symm, fun _ => rfl⟩
    · rw [if_neg e, aget_mem (D := r)]
      exact ⟨.inr, fun h => h.resolve_left fun z => e z.symm⟩
variable (E : Enc α) (vp : β → PV)
def akP (D : List (α × β)) : List PV := D.map fun x => E.p x.1
def avP (D : List (α × β)) : List PV := D.map fun x => vp x.2
theorem akP_map (D : List (α × β)) : akP E D = (D.map (·.1)).map E.p := by unfold akP; rw [List.map_map]; rfl
theorem ak_good (D : List (α × β)) (k : α) : goodK (akP E D) (E.p k) = true := by rw [akP_map]; exact E.good _ k
theorem ak_len (D : List (α × β)) : (akP E D).length = D.length := List.length_map _
theorem dlook_eq (k : α) : ∀ D : List (α × β), dlook (akP E D) (avP vp D) (E.p k) = (aget k D).map vp
  | [] => rfl
  | x :: r => by
    show (if keyEq (E.p x.1) (E.p k) then some (vp x.2) else dlook (akP E r) (avP vp r) (E.p k)) = (if x.1 = k then some x.2 else aget k r).map vp
    rw [E.keyEq_eq]
    by_cases e : x.1 = k
    · rw [if_pos (decide_eq_true e), if_pos e]; rfl
    · rw [if_neg (by rw [decide_eq_false e]; decide), if_neg e]
      exact dlook_eq k r
theorem dput_eq (k : α) (v : β) : ∀ D : List (α × β), dput (akP E D) (avP vp D) (E.p k) (vp v) = (akP E (aput k v D), avP vp (aput k v D))
  | [] => rfl
  | x :: r => by
    show (if keyEq (E.p x.1) (E.p k) then (E.p x.1 :: akP E r, vp v :: avP vp r) else (E.p x.1 :: (dput (akP E r) (avP vp r) (E.p k) (vp v)).1, vp x.2 :: (dput (akP E r) (avP vp r) (E.p k) (vp v)).2)) = _
    rw [E.keyEq_eq, dput_eq k v r]
    show _ = (akP E (if x.1 = k then (x.1, v) :: r else x :: aput k v r), avP vp (if x.1 = k then (x.1, v) :: r else x :: aput k v r))
    by_cases e : x.1 = k
    · rw [if_pos (decide_eq_true e), if_pos e]; rfl
    · rw [if_neg (by rw [decide_eq_false e]; decide), if_neg e]; rfl
theorem ak_lb (D : List (α × β)) {n : Nat} : lbs n (akP E D) = true := lbs_map (fun x => E.lb x.1) D
end
/-! rows of ints -/
theorem toks_ints : ∀ (a b : List Int) (x y : List (Int ⊕ List Nat)), PySem.W.keyToksAll (a.map PyData.int) ++ x = PySem.W.keyToksAll (b.map PyData.int) ++ y → a = b ∧ x = y
  | [], [], x, y, h => by
    rw [List.map_nil, PySem.W.keyToksAll] at h
    exact ⟨rfl, (List.cons.inj h).2⟩
  | [], y :: b, _, _, h => by
    rw [List.map_nil, List.map_cons, PySem.W.keyToksAll, PySem.W.keyToksAll] at h
    exact absurd (List.cons.inj h).1 (by decide)
  | x :: a, [], _, _, h => by
    rw [List.map_nil, List.map_cons, PySem.W.keyToksAll, PySem.W.keyToksAll] at h
    exact absurd (List.cons.inj h).1 (by decide)
  | x :: a, y :: b, u, v, h => by
    rw [List.map_cons, List.map_cons, PySem.W.keyToksAll, PySem.W.keyToksAll, PySem.W.keyToks, PySem.W.keyToks] at h
    have h := (List.cons.inj h).2
    have h1 := List.cons.inj h
    obtain ⟨e1, e2⟩ := toks_ints a b u v h1.2
    have e3 : x = y := Sum.inl.inj h1.1
    rw [e1, e3]; exact ⟨rfl, e2⟩
theorem NKs_ints : ∀ a : List Int, NKs (a.map .int) = some (a.map NestedKey.num)
  | [] => by rw [List.map_nil, NKs]; rfl
  | x :: a => by rw [List.map_cons, NKs, NK, NKs_ints a]; rfl
theorem noTexts_ints : ∀ a : List Int, noTexts (a.map NestedKey.num) = true
  | [] => by rw [List.map_nil, noTexts]
  | x :: a => by rw [List.map_cons, noTexts, noText, noTexts_ints a]; rfl
theorem num_inj : ∀ {a b : List Int}, a.map NestedKey.num = b.map NestedKey.num → a = b
  | [], [], _ => rfl
  | [], _ :: _, h => by cases h
  | _ :: _, [], h => by cases h
  | x :: a, y :: b, h => by
    rw [List.map_cons, List.map_cons] at h
    have h := List.cons.inj h
    rw [num_inj h.2, NestedKey.num.inj h.1]
theorem alike_ints : ∀ a b : List Int, PySem.W.alikeAll (a.map PyData.int) (b.map PyData.int) = true
  | [], _ => by rw [List.map_nil, PySem.W.alikeAll]
  | x :: a, [] => by rw [List.map_cons, List.map_nil, PySem.W.alikeAll]
  | x :: a, y :: b => by rw [List.map_cons, List.map_cons, PySem.W.alikeAll, PySem.W.alike, alike_ints a b]; rfl
theorem depth_ints : ∀ a : List Int, PyData.depthAll (a.map PyData.int) = 0
  | [] => by rw [List.map_nil, PyData.depthAll]
  | x :: a => by rw [List.map_cons, PyData.depthAll, PyData.depth, depth_ints a]; rfl
theorem kdepth_ints : ∀ a : List Int, NestedKey.depthAll (a.map NestedKey.num) = 0
  | [] => by rw [List.map_nil, NestedKey.depthAll]
  | x :: a => by rw [List.map_cons, NestedKey.depthAll, NestedKey.depth, kdepth_ints a]; rfl
def tD (a : List Int) : PyData := .tuple (a.map .int)
def tK (a : List Int) : NestedKey := .tup (a.map .num)
theorem tK_eq (a : List Int) : NK (tT a) = some (tK a) := by
  unfold tT tK
  rw [NK, NKs_ints]; rfl
def rE : Enc (List Int) where
  p := tT
  d := tD
  k := tK
  pd := fun a cs => toD_tT
  pk := tK_eq
  tp := fun a => ⟨_, rfl⟩
  nt := fun a => by unfold tK; rw [noText, noTexts_ints]
  dp := fun a => by unfold tK; rw [NestedKey.depth, kdepth_ints]; decide
  al := fun a b => by unfold tD; rw [PySem.W.alike, alike_ints]
  dd := fun a => by unfold tD; rw [PyData.depth, depth_ints]; decide
  ki := fun a b h => by
    unfold tD at h
    rw [PySem.W.keyToks, PySem.W.keyToks] at h
    exact (toks_ints a b [] [] (by rw [h])).1
  ni := fun a b h => num_inj (NestedKey.tup.inj h)
/-- a time and a record -/
abbrev Key := List Int × List Int
def kP (k : Key) : PV := .tup [tT k.1, tT k.2]
def kE : Enc Key where
  p := kP
  d := fun k => .tuple [tD k.1, tD k.2]
  k := fun k => .tup [tK k.1, tK k.2]
  pd := fun k cs => by
    unfold kP
    rw [PV.toD, toDs, toDs, toDs, toD_tT, toD_tT]
    rfl
  pk := fun k => by
    unfold kP
    rw [NK, NKs, NKs, NKs, tK_eq, tK_eq]; rfl
  tp := fun k => ⟨_, rfl⟩
  nt := fun k => by rw [noText, noTexts, noTexts, noTexts, show noText (tK k.1) = true from rE.nt k.1, show noText (tK k.2) = true from rE.nt k.2]; rfl
  dp := fun k => by
    rw [NestedKey.depth, NestedKey.depthAll, NestedKey.depthAll, NestedKey.depthAll]
    have h1 : (tK k.1).depth ≤ 1 := by unfold tK; rw [NestedKey.depth, kdepth_ints]; decide
    have h2 : (tK k.2).depth ≤ 1 := by unfold tK; rw [NestedKey.depth, kdepth_ints]; decide
    omega
  al := fun a b => by rw [PySem.W.alike, PySem.W.alikeAll, PySem.W.alikeAll, PySem.W.alikeAll, show PySem.W.alike (tD a.1) (tD b.1) = true from rE.al a.1 b.1, show PySem.W.alike (tD a.2) (tD b.2) = true from rE.al a.2 b.2]; rfl
  dd := fun k => by
    rw [PyData.depth, PyData.depthAll, PyData.depthAll, PyData.depthAll]
    have h1 : (tD k.1).depth ≤ 1 := by unfold tD; rw [PyData.depth, depth_ints]; decide
    have h2 : (tD k.2).depth ≤ 1 := by unfold tD; rw [PyData.depth, depth_ints]; decide
    omega
  ki := fun a b h => by
    rw [PySem.W.keyToks, PySem.W.keyToks, PySem.W.keyToksAll, PySem.W.keyToksAll, PySem.W.keyToksAll, PySem.W.keyToksAll, PySem.W.keyToksAll, PySem.W.keyToksAll] at h
    unfold tD at h
    rw [PySem.W.keyToks, PySem.W.keyToks, PySem.W.keyToks, PySem.W.keyToks] at h
    have h := (List.cons.inj h).2
    obtain ⟨e1, h⟩ := toks_ints _ _ _ _ h
    have h := (List.cons.inj h).2
    obtain ⟨e2, _⟩ := toks_ints _ _ _ _ h
    exact Prod.ext e1 e2
  ni := fun a b h => by
    have h := NestedKey.tup.inj h
    have h1 := List.cons.inj h
    have h2 := List.cons.inj h1.2
    exact Prod.ext (rE.ni _ _ h1.1) (rE.ni _ _ h2.1)
end DL

namespace DL
open PySem L2
/-! P of k10: lists of changes, plainly -/
abbrev Chg := List Int × List Int × Int
def rowE : EqE (List Int) := EqE.int.tup
def chE : EqE Chg := rowE.tri rowE EqE.int
def chP (x : Chg) : PV := .tup [tT x.1, tT x.2.1, .int x.2.2]
theorem chE_p : chE.p = chP := rfl
def ind (b : Bool) : Int := if b then 1 else 0
def wt (g : List Int → List Int → Int) (L : List Chg) : Int := (L.map fun x => x.2.2 * g x.1 x.2.1).sum
theorem wt_nil (g : List Int → List Int → Int) : wt g [] = 0 := rfl
theorem wt_cons (g : List Int → List Int → Int) (x : Chg) (L : List Chg) : wt g (x :: L) = x.2.2 * g x.1 x.2.1 + wt g L := by unfold wt; rw [List.map_cons, List.sum_cons]
theorem wt_app (g : List Int → List Int → Int) : ∀ (L M : List Chg), wt g (L ++ M) = wt g L + wt g M
  | [], M => by rw [List.nil_append, wt_nil, Int.zero_add]
  | x :: L, M => by rw [List.cons_append, wt_cons, wt_cons, wt_app g L M, Int.add_assoc]
theorem wt_congr {g h : List Int → List Int → Int} : ∀ {L : List Chg}, (∀ x ∈ L, g x.1 x.2.1 = h x.1 x.2.1) → wt g L = wt h L
  | [], _ => rfl
  | x :: L, e => by rw [wt_cons, wt_cons, e x List.mem_cons_self, wt_congr fun y hy => e y (List.mem_cons_of_mem _ hy)]
def kInd (k : Key) (r t : List Int) : Int := ind (decide (t = k.1) && decide (r = k.2))
def tot (L : List Chg) (k : Key) : Int := wt (kInd k) L
def keyOf (x : Chg) : Key := (x.2.1, x.1)
theorem kInd_key (k : Key) (x : Chg) : kInd k x.1 x.2.1 = ind (decide (keyOf x = k)) := by
  unfold kInd keyOf
  congr 1
  by_cases h1 : x.2.1 = k.1
  · by_cases h2 : x.1 = k.2
    · simp [h1, h2]
    · simp [h1, h2, Prod.ext_iff]
  · simp [h1, Prod.ext_iff]
theorem tot_cons (x : Chg) (L : List Chg) (k : Key) : tot (x :: L) k = (if keyOf x = k then x.2.2 else 0) + tot L k := by
  unfold tot
  rw [wt_cons, kInd_key]
  by_cases h : keyOf x = k
  · rw [decide_eq_true h, if_pos h]; unfold ind; rw [if_pos rfl, Int.mul_one]
  · rw [decide_eq_false h, if_neg h]; unfold ind; rw [if_neg (by decide), Int.mul_zero]
theorem tot_app (L M : List Chg) (k : Key) : tot (L ++ M) k = tot L k + tot M k := wt_app _ L M
theorem tot_zero {k : Key} : ∀ {L : List Chg}, k ∉ L.map keyOf → tot L k = 0
  | [], _ => rfl
  | x :: L, h => by
    rw [List.map_cons, List.mem_cons, not_or] at h
    rw [tot_cons, if_neg (fun e => h.1 e.symm), tot_zero h.2]; rfl
/-! each once -/
def uq {α : Type} [DecidableEq α] : List α → List α
  | [] => []
  | x :: r => if x ∈ r then uq r else x :: uq r
theorem uq_mem {α : Type} [DecidableEq α] {a : α} : ∀ {l : List α}, a ∈ uq l ↔ a ∈ l
  | [] => Iff.rfl
  | x :: r => by
    show a ∈ (if x ∈ r then uq r else x :: uq r) ↔ _
    split
    · rename_i h
      rw [uq_mem (l := r), List.mem_cons]
      exact ⟨.inr, fun z => z.elim (fun e => e ▸ h) id⟩
    · rw [List.mem_cons, List.mem_cons, uq_mem (l := r)]
theorem uq_nodup {α : Type} [DecidableEq α] : ∀ l : List α, (uq l).Nodup
  | [] => .nil
  | x :: r => by
    show (if x ∈ r then uq r else x :: uq r).Nodup
    split
    · exact uq_nodup r
    · rename_i h
      rw [List.nodup_cons]
      exact ⟨fun z => h (uq_mem.mp z), uq_nodup r⟩
theorem uq_len {α : Type} [DecidableEq α] : ∀ l : List α, (uq l).length ≤ l.length
  | [] => Nat.le_refl _
  | x :: r => by
    have := uq_len r
    show (if x ∈ r then uq r else x :: uq r).length ≤ _
    split
    · rw [List.length_cons]; omega
    · rw [List.length_cons, List.length_cons]; omega
/-! the tidy list -/
def mkC (f : Key → Int) (k : Key) : Chg := (k.2, k.1, f k)
def canonK (S : List Key) (f : Key → Int) : List Chg := (S.filter fun k => decide (f k ≠ 0)).map (mkC f)
def Srt {α : Type} (E : Enc α) (S : List α) : Prop := S.Pairwise (fun a b => E.le a b = true) ∧ S.Nodup
theorem Srt.filter {α : Type} {E : Enc α} {S : List α} (h : Srt E S) (p : α → Bool) : Srt E (S.filter p) := ⟨h.1.filter _, h.2.filter _⟩
theorem Srt.of {α : Type} {E : Enc α} {l : List α} (h : l.Nodup) : Srt E (E.sort l) := ⟨E.sort_sorted l, (E.sort_perm l).nodup_iff.mpr h⟩
theorem canonK_uniq {S S' : List Key} {f f' : Key → Int} (s : Srt kE S) (s' : Srt kE S') (hf : ∀ k, f k = f' k) (hs : ∀ k, f k ≠ 0 → k ∈ S) (hs' : ∀ k, f' k ≠ 0 → k ∈ S') : canonK S f = canonK S' f' := by
  have e : f = f' := funext hf
  subst e
  unfold canonK
  congr 1
  refine kE.uniq (s.filter _).1 (s'.filter _).1 (s.filter _).2 (s'.filter _).2 fun k => ?_
  rw [List.mem_filter, List.mem_filter, decide_eq_true_iff]
  exact ⟨fun h => ⟨hs' k h.2, h.2⟩, fun h => ⟨hs k h.2, h.2⟩⟩
def canon (L : List Chg) : List Chg := canonK (kE.sort (uq (L.map keyOf))) (tot L)
theorem canon_supp {L : List Chg} {k : Key} (h : tot L k ≠ 0) : k ∈ kE.sort (uq (L.map keyOf)) := by
  rw [kE.sort_mem, uq_mem]
  apply Classical.byContradiction
  intro z
  exact h (tot_zero z)
theorem canon_of {S : List Key} {f : Key → Int} {L : List Chg} (s : Srt kE S) (hf : ∀ k, f k = tot L k) (hs : ∀ k, tot L k ≠ 0 → k ∈ S) : canonK S f = canon L :=
  canonK_uniq s (.of (uq_nodup _)) hf (fun k h => hs k (by rw [← hf k]; exact h)) fun k h => canon_supp h
theorem canon_eq {L M : List Chg} (h : ∀ k, tot L k = tot M k) : canon L = canon M := canon_of (.of (uq_nodup _)) h fun k z => canon_supp (by rw [h k]; exact z)
theorem canon_mem {L : List Chg} {x : Chg} : x ∈ canon L ↔ x.2.2 = tot L (keyOf x) ∧ x.2.2 ≠ 0 := by
  unfold canon canonK
  rw [List.mem_map]
  constructor
  · rintro ⟨k, hk, rfl⟩
    rw [List.mem_filter, decide_eq_true_iff] at hk
    exact ⟨rfl, hk.2⟩
  · rintro ⟨h1, h2⟩
    refine ⟨keyOf x, ?_, ?_⟩
    · rw [List.mem_filter, decide_eq_true_iff]
      rw [h1] at h2
      exact ⟨canon_supp h2, h2⟩
    · unfold mkC
      rw [← h1]; rfl
theorem canon_inj {L M : List Chg} (h : canon L = canon M) (k : Key) : tot L k = tot M k := by
  have key : ∀ {L M : List Chg}, canon L = canon M → tot L k ≠ 0 → tot L k = tot M k := fun {L M} h z => by
    have : (k.2, k.1, tot L k) ∈ canon L := canon_mem.mpr ⟨rfl, z⟩
    rw [h] at this
    exact (canon_mem.mp this).1
  by_cases z : tot L k = 0
  · by_cases y : tot M k = 0
    · rw [z, y]
    · exact (key h.symm y).symm
  · exact key h z
theorem canon_len (L : List Chg) : (canon L).length ≤ L.length := by
  unfold canon canonK
  rw [List.length_map]
  refine Nat.le_trans (List.length_filter_le _ _) ?_
  rw [kE.sort_len]
  refine Nat.le_trans (uq_len _) ?_
  rw [List.length_map]; exact Nat.le_refl _
/-! sums over keys -/
theorem sum_add {α : Type} (a b : α → Int) : ∀ S : List α, (S.map fun k => a k + b k).sum = (S.map a).sum + (S.map b).sum
  | [] => rfl
  | k :: S => by
    rw [List.map_cons, List.map_cons, List.map_cons, List.sum_cons, List.sum_cons, List.sum_cons, sum_add a b S]; omega
theorem sum_zero {α : Type} (a : α → Int) : ∀ {S : List α}, (∀ k ∈ S, a k = 0) → (S.map a).sum = 0
  | [], _ => rfl
  | k :: S, h => by rw [List.map_cons, List.sum_cons, h k List.mem_cons_self, sum_zero a fun x hx => h x (List.mem_cons_of_mem _ hx)]; rfl
theorem sum_one {α : Type} [DecidableEq α] (a : α → Int) (k0 : α) : ∀ {S : List α}, S.Nodup → k0 ∈ S → (∀ k ∈ S, k ≠ k0 → a k = 0) → (S.map a).sum = a k0
  | [], _, h, _ => by cases h
  | k :: S, nd, h, z => by
    rw [List.nodup_cons] at nd
    rw [List.map_cons, List.sum_cons]
    by_cases e : k = k0
    · subst e
      rw [sum_zero a fun x hx => z x (List.mem_cons_of_mem _ hx) (fun e => nd.1 (e ▸ hx)), Int.add_zero]
    · rw [z k List.mem_cons_self e, Int.zero_add]
      exact sum_one a k0 nd.2 ((List.mem_cons.mp h).resolve_left fun e' => e e'.symm) fun x hx => z x (List.mem_cons_of_mem _ hx)
theorem wt_keys (g : List Int → List Int → Int) {S : List Key} (nd : S.Nodup) : ∀ {L : List Chg}, (∀ k ∈ L.map keyOf, k ∈ S) → (S.map fun k => tot L k * g k.2 k.1).sum = wt g L
  | [], _ => by rw [wt_nil]; exact sum_zero _ fun k _ => by rw [show tot [] k = 0 from rfl, Int.zero_mul]
  | x :: L, h => by
    have e : (fun k : Key => tot (x :: L) k * g k.2 k.1) = fun k => ((if keyOf x = k then x.2.2 else 0) * g k.2 k.1) + tot L k * g k.2 k.1 := by
      funext k
      rw [tot_cons, Int.add_mul]
    rw [e, sum_add, wt_keys g nd fun k hk => h k (by rw [List.map_cons]; exact List.mem_cons_of_mem _ hk), wt_cons]
    rw [sum_one _ (keyOf x) nd (h _ (by rw [List.map_cons]; exact List.mem_cons_self)) fun k _ hk => by rw [if_neg (fun e => hk e.symm), Int.zero_mul]]
    rw [if_pos rfl]; rfl
theorem sum_filter {α : Type} (a : α → Int) (p : α → Bool) : ∀ {S : List α}, (∀ k ∈ S, p k = false → a k = 0) → ((S.filter p).map a).sum = (S.map a).sum
  | [], _ => rfl
  | k :: S, h => by
    rw [List.filter_cons]
    have ih := sum_filter a p (S := S) fun x hx => h x (List.mem_cons_of_mem _ hx)
    cases e : p k with
    | true => rw [if_pos rfl, List.map_cons, List.map_cons, List.sum_cons, List.sum_cons, ih]
    | false => rw [if_neg (by decide), List.map_cons, List.sum_cons, ih, h k List.mem_cons_self e, Int.zero_add]
theorem wt_canon (g : List Int → List Int → Int) (L : List Chg) : wt g (canon L) = wt g L := by
  rw [← wt_keys g (S := kE.sort (uq (L.map keyOf))) ((kE.sort_perm _).nodup_iff.mpr (uq_nodup _)) (L := L) fun k hk => by rw [kE.sort_mem, uq_mem]; exact hk]
  unfold canon canonK wt
  rw [List.map_map]
  rw [← sum_filter (fun k : Key => tot L k * g k.2 k.1) (fun k => decide (tot L k ≠ 0)) (S := kE.sort (uq (L.map keyOf))) fun k _ h => by
    have : tot L k = 0 := by simpa using h
    rw [this, Int.zero_mul]]
  rfl
/-! times moved, some dropped -/
def moved (F : List Int → Option (List Int)) (L : List Chg) : List Chg := L.filterMap fun x => (F x.2.1).map fun t => (x.1, t, x.2.2)
theorem moved_cons (F : List Int → Option (List Int)) (x : Chg) (L : List Chg) : moved F (x :: L) = (match F x.2.1 with | some t => [(x.1, t, x.2.2)] | none => []) ++ moved F L := by
  unfold moved
  rw [List.filterMap_cons]
  cases F x.2.1 <;> rfl
theorem moved_app (F : List Int → Option (List Int)) (L M : List Chg) : moved F (L ++ M) = moved F L ++ moved F M := by unfold moved; rw [List.filterMap_append]
theorem moved_len (F : List Int → Option (List Int)) (L : List Chg) : (moved F L).length ≤ L.length := List.length_filterMap_le _ _
def thr (F : List Int → Option (List Int)) (g : List Int → List Int → Int) (r t : List Int) : Int := match F t with
  | some d => g r d
  | none => 0
theorem wt_moved (F : List Int → Option (List Int)) (g : List Int → List Int → Int) : ∀ L : List Chg, wt g (moved F L) = wt (thr F g) L
  | [] => rfl
  | x :: L => by
    rw [moved_cons, wt_app, wt_moved F g L, wt_cons]
    congr 1
    unfold thr
    cases F x.2.1 with
    | none => show wt g [] = _; rw [wt_nil, Int.mul_zero]
    | some t => show wt g [(x.1, t, x.2.2)] = _; rw [wt_cons, wt_nil, Int.add_zero]
/-- alike, as far as the moved times tell -/
def Sm (F : List Int → Option (List Int)) (L M : List Chg) : Prop := ∀ g, wt (thr F g) L = wt (thr F g) M
theorem Sm.canon {F : List Int → Option (List Int)} {L M : List Chg} (h : Sm F L M) : canon (moved F L) = canon (moved F M) := canon_eq fun k => by
  unfold tot
  rw [wt_moved, wt_moved, h]
theorem Sm.refl (F : List Int → Option (List Int)) (L : List Chg) : Sm F L L := fun _ => rfl
theorem Sm.symm {F : List Int → Option (List Int)} {L M : List Chg} (h : Sm F L M) : Sm F M L := fun g => (h g).symm
theorem Sm.trans {F : List Int → Option (List Int)} {L M N : List Chg} (h : Sm F L M) (k : Sm F M N) : Sm F L N := fun g => (h g).trans (k g)
theorem Sm.can (F : List Int → Option (List Int)) (L : List Chg) : Sm F (DL.canon L) L := fun g => wt_canon _ L
theorem Sm.app {F : List Int → Option (List Int)} {L L' M M' : List Chg} (h : Sm F L L') (k : Sm F M M') : Sm F (L ++ M) (L' ++ M') := fun g => by rw [wt_app, wt_app, h, k]
theorem Sm.rot {F : List Int → Option (List Int)} (L M : List Chg) : Sm F (L ++ M) (M ++ L) := fun g => by rw [wt_app, wt_app, Int.add_comm]
theorem moved_all {F : List Int → Option (List Int)} {P : List Int → Prop} (h : ∀ t d, F t = some d → P d) : ∀ L : List Chg, ∀ x ∈ moved F L, P x.2.1
  | [], x, hx => by cases hx
  | y :: L, x, hx => by
    rw [moved_cons] at hx
    rcases List.mem_append.mp hx with hx | hx
    · cases e : F y.2.1 with
      | none => rw [e] at hx; cases hx
      | some d =>
        rw [e] at hx
        have hx : x ∈ [(y.1, d, y.2.2)] := hx
        rw [List.mem_singleton] at hx
        subst hx
        exact h _ _ e
    · exact moved_all h L x hx
/-! what is seen as of a time -/
def bagG (q r0 r t : List Int) : Int := ind (leqB t q && decide (r = r0))
def bag (L : List Chg) (q r : List Int) : Int := wt (bagG q r) L
def canonR (S : List (List Int)) (f : List Int → Int) : List (List Int × Int) := (S.filter fun r => decide (f r ≠ 0)).map fun r => (r, f r)
theorem canonR_uniq {S S' : List (List Int)} {f f' : List Int → Int} (s : Srt rE S) (s' : Srt rE S') (hf : ∀ k, f k = f' k) (hs : ∀ k, f k ≠ 0 → k ∈ S) (hs' : ∀ k, f' k ≠ 0 → k ∈ S') : canonR S f = canonR S' f' := by
  have e : f = f' := funext hf
  subst e
  unfold canonR
  congr 1
  refine rE.uniq (s.filter _).1 (s'.filter _).1 (s.filter _).2 (s'.filter _).2 fun k => ?_
  rw [List.mem_filter, List.mem_filter, decide_eq_true_iff]
  exact ⟨fun h => ⟨hs' k h.2, h.2⟩, fun h => ⟨hs k h.2, h.2⟩⟩
theorem bag_cons (x : Chg) (L : List Chg) (q r : List Int) : bag (x :: L) q r = (if leqB x.2.1 q = true ∧ x.1 = r then x.2.2 else 0) + bag L q r := by
  unfold bag
  rw [wt_cons]
  congr 1
  have e : bagG q r x.1 x.2.1 = if leqB x.2.1 q = true ∧ x.1 = r then 1 else 0 := by
    unfold bagG ind
    by_cases h1 : leqB x.2.1 q = true
    · by_cases h2 : x.1 = r
      · simp [h1, h2]
      · simp [h1, h2]
    · simp [h1]
  rw [e]
  split
  · exact Int.mul_one _
  · exact Int.mul_zero _
theorem bag_zero {q r : List Int} : ∀ {L : List Chg}, r ∉ L.map (·.1) → bag L q r = 0
  | [], _ => rfl
  | x :: L, h => by
    rw [List.map_cons, List.mem_cons, not_or] at h
    rw [bag_cons, if_neg (fun e => h.1 e.2.symm), bag_zero h.2]; rfl
def seen (L : List Chg) (q : List Int) : List (List Int × Int) := canonR (rE.sort (uq (L.map (·.1)))) (bag L q)
theorem seen_supp {L : List Chg} {q r : List Int} (h : bag L q r ≠ 0) : r ∈ rE.sort (uq (L.map (·.1))) := by
  rw [rE.sort_mem, uq_mem]
  apply Classical.byContradiction
  intro z
  exact h (bag_zero z)
theorem seen_of {S : List (List Int)} {f : List Int → Int} {L : List Chg} {q : List Int} (s : Srt rE S) (hf : ∀ r, f r = bag L q r) (hs : ∀ r, bag L q r ≠ 0 → r ∈ S) : canonR S f = seen L q :=
  canonR_uniq s (.of (uq_nodup _)) hf (fun k h => hs k (by rw [← hf k]; exact h)) fun k h => seen_supp h
theorem seen_eq {L M : List Chg} {q : List Int} (h : ∀ r, bag L q r = bag M q r) : seen L q = seen M q := seen_of (.of (uq_nodup _)) h fun k z => seen_supp (by rw [h k]; exact z)
theorem seen_mem {L : List Chg} {q : List Int} {x : List Int × Int} : x ∈ seen L q ↔ x.2 = bag L q x.1 ∧ x.2 ≠ 0 := by
  unfold seen canonR
  rw [List.mem_map]
  constructor
  · rintro ⟨k, hk, rfl⟩
    rw [List.mem_filter, decide_eq_true_iff] at hk
    exact ⟨rfl, hk.2⟩
  · rintro ⟨h1, h2⟩
    refine ⟨x.1, ?_, ?_⟩
    · rw [List.mem_filter, decide_eq_true_iff]
      rw [h1] at h2
      exact ⟨seen_supp h2, h2⟩
    · rw [← h1]
theorem seen_inj {L M : List Chg} {q : List Int} (h : seen L q = seen M q) (r : List Int) : bag L q r = bag M q r := by
  have key : ∀ {L M : List Chg}, seen L q = seen M q → bag L q r ≠ 0 → bag L q r = bag M q r := fun {L M} h z => by
    have : (r, bag L q r) ∈ seen L q := seen_mem.mpr ⟨rfl, z⟩
    rw [h] at this
    exact (seen_mem.mp this).1
  by_cases z : bag L q r = 0
  · by_cases y : bag M q r = 0
    · rw [z, y]
    · exact (key h.symm y).symm
  · exact key h z
theorem seen_len (L : List Chg) (q : List Int) : (seen L q).length ≤ L.length := by
  unfold seen canonR
  rw [List.length_map]
  refine Nat.le_trans (List.length_filter_le _ _) ?_
  rw [rE.sort_len]
  refine Nat.le_trans (uq_len _) ?_
  rw [List.length_map]; exact Nat.le_refl _
/-! lists whose bags are alike, are alike -/
theorem leqB_sum : ∀ {a b : List Int}, leqB a b = true → a = b ∨ a.sum < b.sum
  | [], [], _ => .inl rfl
  | x :: a, y :: b, h => by
    rw [leqB, Bool.and_eq_true, decide_eq_true_iff] at h
    rw [List.sum_cons, List.sum_cons]
    rcases leqB_sum h.2 with e | e
    · subst e
      by_cases q : x = y
      · subst q; exact .inl rfl
      · right; omega
    · right; omega
theorem leqB_refl : ∀ a : List Int, leqB a a = true
  | [] => rfl
  | x :: a => by rw [leqB, leqB_refl a, decide_eq_true (Int.le_refl x)]; rfl
theorem leqB_trans : ∀ {a b c : List Int}, leqB a b = true → leqB b c = true → leqB a c = true
  | [], [], [], _, _ => rfl
  | x :: a, y :: b, z :: c, h, k => by
    rw [leqB, Bool.and_eq_true, decide_eq_true_iff] at h k
    rw [leqB, leqB_trans h.2 k.2, decide_eq_true (Int.le_trans h.1 k.1)]; rfl
theorem bags_same {qs : List (List Int)} {A B : List Chg} (hq : ∀ q ∈ qs, 0 ≤ q.sum) (hA : ∀ x ∈ A, x.2.1 ∈ qs) (hB : ∀ x ∈ B, x.2.1 ∈ qs) (h : ∀ q ∈ qs, ∀ r, bag A q r = bag B q r) (k : Key) : tot A k = tot B k := by
  let S := uq ((A ++ B).map keyOf)
  have nd : S.Nodup := uq_nodup _
  have sA : ∀ k ∈ A.map keyOf, k ∈ S := fun k hk => uq_mem.mpr (by rw [List.map_append]; exact List.mem_append_left _ hk)
  have sB : ∀ k ∈ B.map keyOf, k ∈ S := fun k hk => uq_mem.mpr (by rw [List.map_append]; exact List.mem_append_right _ hk)
  have sq : ∀ k ∈ S, k.1 ∈ qs := fun k hk => by
    have hk := uq_mem.mp hk
    obtain ⟨x, hx, rfl⟩ := List.mem_map.mp hk
    rcases List.mem_append.mp hx with hx | hx
    · exact hA x hx
    · exact hB x hx
  have key : ∀ (n : Nat) (k : Key), k ∈ S → k.1.sum.toNat < n → tot A k = tot B k := by
    intro n
    induction n with
    | zero => intro k _ h; omega
    | succ n ih =>
      intro k hk hn
      have e := h k.1 (sq k hk) k.2
      unfold bag at e
      rw [← wt_keys _ nd sA, ← wt_keys _ nd sB] at e
      have e2 : (S.map fun j => tot A j * bagG k.1 k.2 j.2 j.1 + (- (tot B j * bagG k.1 k.2 j.2 j.1))).sum = 0 := by
        rw [sum_add, e]
        have : ∀ (f : Key → Int) (l : List Key), (l.map fun j => - f j).sum = - (l.map f).sum := by
          intro f l
          induction l with
          | nil => rfl
          | cons x l ih => rw [List.map_cons, List.map_cons, List.sum_cons, List.sum_cons, ih]; omega
        rw [this]; omega
      rw [sum_one _ k nd hk fun j hj hne => ?_] at e2
      · have : bagG k.1 k.2 k.2 k.1 = 1 := by
          unfold bagG ind
          rw [leqB_refl, decide_eq_true rfl]; rfl
        rw [this] at e2
        omega
      · unfold bagG ind
        by_cases h1 : leqB j.1 k.1 = true
        · by_cases h2 : j.2 = k.2
          · have hlt : j.1.sum < k.1.sum := by
              rcases leqB_sum h1 with e | e
              · exact absurd (Prod.ext e h2) hne
              · exact e
            have h0 := hq _ (sq j hj)
            rw [ih j hj (by omega)]
            omega
          · rw [h1, decide_eq_false h2]
            show tot A j * 0 + - (tot B j * 0) = 0
            omega
        · cases e : leqB j.1 k.1 with
          | true => exact absurd e h1
          | false =>
            show tot A j * 0 + - (tot B j * 0) = 0
            omega
  by_cases hk : k ∈ S
  · exact key _ k hk (Nat.lt_succ_self _)
  · rw [tot_zero fun z => hk (sA k z), tot_zero fun z => hk (sB k z)]
end DL

namespace DL
open PySem L2
/-! P_k28: joins of lists of changes, tables -/
theorem wt_const (c : Int) (g : List Int → List Int → Int) : ∀ L : List Chg, wt (fun r t => c * g r t) L = c * wt g L
  | [] => by rw [wt_nil, wt_nil, Int.mul_zero]
  | x :: L => by
    rw [wt_cons, wt_cons, wt_const c g L, Int.mul_add]
    congr 1
    rw [← Int.mul_assoc, ← Int.mul_assoc, Int.mul_comm x.2.2 c]
theorem wt_plus (g h : List Int → List Int → Int) : ∀ L : List Chg, wt (fun r t => g r t + h r t) L = wt g L + wt h L
  | [] => rfl
  | x :: L => by
    rw [wt_cons, wt_cons, wt_cons, wt_plus g h L, Int.mul_add]
    omega
theorem wt_zero : ∀ L : List Chg, wt (fun _ _ => 0) L = 0
  | [] => rfl
  | x :: L => by rw [wt_cons, wt_zero L, Int.mul_zero]; rfl
/-- a sum over the pairs -/
def dbl (g : List Int → List Int → List Int → List Int → Int) (L R : List Chg) : Int := wt (fun r t => wt (g r t) R) L
theorem dbl_left (g : List Int → List Int → List Int → List Int → Int) (L M R : List Chg) : dbl g (L ++ M) R = dbl g L R + dbl g M R := wt_app _ L M
theorem dbl_right (g : List Int → List Int → List Int → List Int → Int) (L R S : List Chg) : dbl g L (R ++ S) = dbl g L R + dbl g L S := by
  unfold dbl
  rw [← wt_plus]
  exact wt_congr fun x _ => wt_app _ R S
def pair1 (km : List Int → List Int → Bool) (im : List Int → List Int → List Int) (x : Chg) (R : List Chg) : List Chg := (R.filter fun y => km x.1 y.1).map fun y => (im x.1 y.1, lubL x.2.1 y.2.1, x.2.2 * y.2.2)
def pairL (km : List Int → List Int → Bool) (im : List Int → List Int → List Int) (L R : List Chg) : List Chg := L.flatMap fun x => pair1 km im x R
/-- what a pair gives at q, for the record z -/
def hit (km : List Int → List Int → Bool) (im : List Int → List Int → List Int) (q z : List Int) (r t r' t' : List Int) : Int := ind (leqB t q) * (ind (leqB t' q) * ind (km r r' && decide (im r r' = z)))
theorem ind_and (a b : Bool) : ind (a && b) = ind a * ind b := by cases a <;> cases b <;> rfl
theorem bag_pair1 {km : List Int → List Int → Bool} {im : List Int → List Int → List Int} {q z : List Int} {n : Nat} {x : Chg} (hx : x.2.1.length = n) : ∀ {R : List Chg}, (∀ y ∈ R, y.2.1.length = n) → bag (pair1 km im x R) q z = x.2.2 * wt (hit km im q z x.1 x.2.1) R
  | [], _ => by
    show (0 : Int) = _
    rw [wt_nil, Int.mul_zero]
  | y :: R, hR => by
    have ih := bag_pair1 (km := km) (im := im) (q := q) (z := z) hx (R := R) fun w hw => hR w (List.mem_cons_of_mem _ hw)
    have hy := hR y List.mem_cons_self
    rw [wt_cons, Int.mul_add, ← ih]
    unfold pair1
    rw [List.filter_cons]
    cases hk : km x.1 y.1 with
    | false =>
      rw [if_neg (by decide)]
      have : hit km im q z x.1 x.2.1 y.1 y.2.1 = 0 := by
        unfold hit
        rw [hk, Bool.false_and]
        show _ * (_ * (0 : Int)) = 0
        rw [Int.mul_zero, Int.mul_zero]
      rw [this, Int.mul_zero, Int.mul_zero, Int.zero_add]
    | true =>
      rw [if_pos rfl, List.map_cons]
      unfold bag
      rw [wt_cons]
      congr 1
      show x.2.2 * y.2.2 * bagG q z (im x.1 y.1) (lubL x.2.1 y.2.1) = x.2.2 * (y.2.2 * hit km im q z x.1 x.2.1 y.1 y.2.1)
      unfold bagG hit
      rw [leqB_lub (by rw [hx, hy]), ind_and, ind_and, hk, Bool.true_and, Int.mul_assoc, Int.mul_assoc]
theorem bag_pair {km : List Int → List Int → Bool} {im : List Int → List Int → List Int} {q z : List Int} {n : Nat} {R : List Chg} (hR : ∀ y ∈ R, y.2.1.length = n) : ∀ {L : List Chg}, (∀ y ∈ L, y.2.1.length = n) → bag (pairL km im L R) q z = dbl (hit km im q z) L R
  | [], _ => rfl
  | x :: L, hL => by
    have ih := bag_pair (km := km) (im := im) (q := q) (z := z) hR (L := L) fun w hw => hL w (List.mem_cons_of_mem _ hw)
    unfold pairL dbl at *
    rw [List.flatMap_cons, wt_cons, ← ih]
    unfold bag
    rw [wt_app]
    congr 1
    exact bag_pair1 (hL x List.mem_cons_self) hR
/-- what counts is the sum at each time and record -/
theorem wt_of_tot {L M : List Chg} (h : ∀ k, tot L k = tot M k) (g : List Int → List Int → Int) : wt g L = wt g M := by
  rw [← wt_canon g L, ← wt_canon g M, canon_eq h]
theorem dbl_of_tot {L L' R R' : List Chg} (h : ∀ k, tot L k = tot L' k) (h' : ∀ k, tot R k = tot R' k) (g : List Int → List Int → List Int → List Int → Int) : dbl g L R = dbl g L' R' := by
  unfold dbl
  rw [wt_of_tot h]
  exact wt_congr fun x _ => wt_of_tot h' _
theorem bag_canon (L : List Chg) (q z : List Int) : bag (canon L) q z = bag L q z := wt_canon _ L
/-! tables: each record once, no zeros -/
structure Tb (f : List Int → Int) (D : List (List Int × Int)) : Prop where
  nd : (D.map (·.1)).Nodup
  mem : ∀ x, x ∈ D ↔ x.2 = f x.1 ∧ x.2 ≠ 0
theorem Tb.nodup {f : List Int → Int} {D : List (List Int × Int)} (h : Tb f D) : D.Nodup := by
  have := h.nd
  rw [List.nodup_iff_pairwise_ne] at this ⊢
  rw [List.pairwise_map] at this
  exact this.imp fun {a b} h e => h (by rw [e])
theorem Tb.perm {f : List Int → Int} {D D' : List (List Int × Int)} (h : Tb f D) (h' : Tb f D') : D.Perm D' := (List.perm_ext_iff_of_nodup h.nodup h'.nodup).mpr fun x => (h.mem x).trans (h'.mem x).symm
theorem sum_perm {α : Type} (g : α → Int) {l m : List α} (h : l.Perm m) : (l.map g).sum = (m.map g).sum := by
  induction h with
  | nil => rfl
  | cons x _ ih => rw [List.map_cons, List.map_cons, List.sum_cons, List.sum_cons, ih]
  | swap x y l => rw [List.map_cons, List.map_cons, List.map_cons, List.map_cons, List.sum_cons, List.sum_cons, List.sum_cons, List.sum_cons]; omega
  | trans _ _ i1 i2 => exact i1.trans i2
theorem tb_get {f : List Int → Int} : ∀ {D : List (List Int × Int)}, (D.map (·.1)).Nodup → ∀ {r : List Int} {c : Int}, aget r D = some c ↔ (r, c) ∈ D
  | [], _, r, c => ⟨fun h => (by cases h), fun h => (by cases h)⟩
  | x :: D, hn, r, c => by
    rw [List.map_cons, List.nodup_cons] at hn
    have ih := tb_get (f := f) hn.2 (r := r) (c := c)
    show (if x.1 = r then some x.2 else aget r D) = some c ↔ _
    by_cases e : x.1 = r
    · rw [if_pos e, List.mem_cons]
      constructor
      · intro h
        left
        rw [← e, ← Option.some.inj h]
      · rintro (h | h)
        · rw [← h]
        · exact absurd (List.mem_map.mpr ⟨_, h, e.symm⟩) hn.1
    · rw [if_neg e, ih, List.mem_cons]
      exact ⟨.inr, fun h => h.resolve_left fun h => e (by rw [← h])⟩
theorem Tb.val {f : List Int → Int} {D : List (List Int × Int)} (h : Tb f D) (r : List Int) : (aget r D).getD 0 = f r := by
  cases e : aget r D with
  | some c => exact ((h.mem _).mp ((tb_get (f := f) h.nd).mp e)).1
  | none =>
    by_cases z : f r = 0
    · exact z.symm
    · have := (tb_get (f := f) h.nd).mpr ((h.mem (r, f r)).mpr ⟨rfl, z⟩)
      rw [e] at this; cases this
theorem Tb.none {f : List Int → Int} {D : List (List Int × Int)} (h : Tb f D) {r : List Int} : aget r D = none ↔ f r = 0 := by
  constructor
  · intro e
    have := h.val r
    rw [e] at this
    exact this.symm
  · intro z
    cases e : aget r D with
    | none => rfl
    | some c =>
      obtain ⟨h1, h2⟩ := (h.mem _).mp ((tb_get (f := f) h.nd).mp e)
      exact absurd (h1.trans z) h2
theorem Tb.nil : Tb (fun _ => 0) [] := ⟨List.nodup_nil, fun x => ⟨fun h => (by cases h), fun h => absurd h.1 h.2⟩⟩
theorem Tb.congr {f g : List Int → Int} {D : List (List Int × Int)} (h : Tb f D) (e : ∀ r, f r = g r) : Tb g D := ⟨h.nd, fun x => by rw [h.mem, e]⟩
/-- what seen tells is a table -/
theorem seen_tb (L : List Chg) (q : List Int) : Tb (bag L q) (seen L q) := by
  refine ⟨?_, fun x => seen_mem⟩
  unfold seen canonR
  rw [List.map_map]
  have : ((fun x => x.1) ∘ fun r => (r, bag L q r) : List Int → List Int) = id := rfl
  rw [this, List.map_id]
  exact ((Srt.of (uq_nodup (L.map (·.1)))).filter _).2
theorem wt_recs (g : List Int → Int) (q : List Int) {S : List (List Int)} (nd : S.Nodup) : ∀ {L : List Chg}, (∀ x ∈ L, x.1 ∈ S) → (S.map fun r => bag L q r * g r).sum = wt (fun r t => ind (leqB t q) * g r) L
  | [], _ => by
    rw [wt_nil]
    exact sum_zero _ fun r _ => by show (0 : Int) * _ = 0; rw [Int.zero_mul]
  | x :: L, h => by
    have e : (fun r => bag (x :: L) q r * g r) = fun r => ((if leqB x.2.1 q = true ∧ x.1 = r then x.2.2 else 0) * g r) + bag L q r * g r := by
      funext r
      rw [bag_cons, Int.add_mul]
    rw [e, sum_add, wt_recs g q nd fun y hy => h y (List.mem_cons_of_mem _ hy), wt_cons]
    congr 1
    rw [sum_one _ x.1 nd (h x List.mem_cons_self) fun r _ hr => by rw [if_neg (fun e => hr e.2.symm), Int.zero_mul]]
    cases hl : leqB x.2.1 q with
    | true =>
      rw [if_pos ⟨rfl, rfl⟩]
      show _ = x.2.2 * ((1 : Int) * g x.1)
      rw [Int.one_mul]
    | false =>
      rw [if_neg (fun e => by cases e.1)]
      show _ = x.2.2 * ((0 : Int) * g x.1)
      simp
theorem tb_sum {L : List Chg} {q : List Int} {D : List (List Int × Int)} (h : Tb (bag L q) D) (g : List Int → Int) : (D.map fun x => x.2 * g x.1).sum = wt (fun r t => ind (leqB t q) * g r) L := by
  rw [sum_perm (fun x => x.2 * g x.1) (h.perm (seen_tb L q)), ← wt_recs g q (S := rE.sort (uq (L.map (·.1)))) ((rE.sort_perm _).nodup_iff.mpr (uq_nodup _)) (L := L) fun x hx => by
    rw [rE.sort_mem, uq_mem]
    exact List.mem_map.mpr ⟨x, hx, rfl⟩]
  unfold seen canonR
  rw [List.map_map]
  exact sum_filter (fun r => bag L q r * g r) (fun r => decide (bag L q r ≠ 0)) fun r _ h => by
    have : bag L q r = 0 := by simpa using h
    show bag L q r * g r = 0
    rw [this, Int.zero_mul]
/-- one more count -/
def arem (r : List Int) (D : List (List Int × Int)) : List (List Int × Int) := D.filter fun x => decide (x.1 ≠ r)
def tadd (D : List (List Int × Int)) (r : List Int) (c : Int) : List (List Int × Int) := if (aget r D).getD 0 + c = 0 then arem r (aput r ((aget r D).getD 0 + c) D) else aput r ((aget r D).getD 0 + c) D
theorem Tb.add {f : List Int → Int} {D : List (List Int × Int)} (h : Tb f D) (r : List Int) (c : Int) : Tb (fun z => f z + if z = r then c else 0) (tadd D r c) := by
  have nd := anodup_put r ((aget r D).getD 0 + c) D h.nd
  have mem : ∀ x : List Int × Int, x ∈ aput r ((aget r D).getD 0 + c) D ↔ (if r = x.1 then x.2 = f r + c else x ∈ D) := fun x => by
    obtain ⟨a, v⟩ := x
    rw [← tb_get (f := f) nd, aget_put, h.val]
    by_cases e : r = a
    · subst e
      rw [if_pos rfl, if_pos rfl]
      exact ⟨fun h => (Option.some.inj h).symm, fun h => congrArg some (Eq.symm h)⟩
    · rw [if_neg e, if_neg e]
      exact tb_get (f := f) h.nd
  unfold tadd
  rw [h.val]
  rw [h.val] at nd mem
  by_cases z : f r + c = 0
  · rw [if_pos z]
    refine ⟨?_, fun x => ?_⟩
    · unfold arem
      exact (List.Sublist.map _ List.filter_sublist).nodup nd
    · unfold arem
      rw [List.mem_filter, mem, decide_eq_true_iff]
      by_cases e : r = x.1
      · rw [if_pos e]
        constructor
        · rintro ⟨_, h2⟩
          exact absurd e.symm h2
        · rintro ⟨h1, h2⟩
          rw [if_pos e.symm, ← e] at h1
          exact absurd (h1.trans z) h2
      · rw [if_neg e, h.mem, if_neg (fun h => e h.symm), Int.add_zero]
        exact ⟨fun h => h.1, fun h => ⟨h, fun h => e h.symm⟩⟩
  · rw [if_neg z]
    refine ⟨nd, fun x => ?_⟩
    rw [mem]
    by_cases e : r = x.1
    · rw [if_pos e, if_pos e.symm, ← e]
      exact ⟨fun h => ⟨h, by rw [h]; exact z⟩, fun h => h.1⟩
    · rw [if_neg e, h.mem, if_neg (fun h => e h.symm), Int.add_zero]
theorem tadd_len (D : List (List Int × Int)) (r : List Int) (c : Int) : (tadd D r c).length ≤ D.length + 1 := by
  unfold tadd arem
  split
  · exact Nat.le_trans (List.length_filter_le _ _) (aput_len _ _ _)
  · exact aput_len _ _ _
/-- what the tables of both sides join to -/
def joinT (km : List Int → List Int → Bool) (im : List Int → List Int → List Int) (D E : List (List Int × Int)) (z : List Int) : Int := (D.map fun x => x.2 * (E.map fun y => y.2 * ind (km x.1 y.1 && decide (im x.1 y.1 = z))).sum).sum
theorem joinT_dbl {km : List Int → List Int → Bool} {im : List Int → List Int → List Int} {q z : List Int} {L R : List Chg} {D E : List (List Int × Int)} (hD : Tb (bag L q) D) (hE : Tb (bag R q) E) : joinT km im D E z = dbl (hit km im q z) L R := by
  unfold joinT
  rw [tb_sum hD fun r => (E.map fun y => y.2 * ind (km r y.1 && decide (im r y.1 = z))).sum]
  unfold dbl
  refine wt_congr fun x _ => ?_
  rw [tb_sum hE fun r' => ind (km x.1 r' && decide (im x.1 r' = z)), ← wt_const]
  rfl
/-! a step -/
theorem step_left {km : List Int → List Int → Bool} {im : List Int → List Int → List Int} {n : Nat} {A B Bt kept : List Chg} (hB : ∀ y ∈ kept, y.2.1.length = n) (hT : ∀ y ∈ Bt, y.2.1.length = n) (hk : ∀ k, tot kept k = tot B k) (q z : List Int) :
    dbl (hit km im q z) (A ++ Bt) B = dbl (hit km im q z) A B + bag (canon (pairL km im Bt kept)) q z := by
  rw [dbl_left, bag_canon, bag_pair hB hT, dbl_of_tot (fun _ => rfl) hk]
theorem step_right {km : List Int → List Int → Bool} {im : List Int → List Int → List Int} {n : Nat} {A B Bt kept : List Chg} (hA : ∀ y ∈ kept, y.2.1.length = n) (hT : ∀ y ∈ Bt, y.2.1.length = n) (hk : ∀ k, tot kept k = tot A k) (q z : List Int) :
    dbl (hit km im q z) A (B ++ Bt) = dbl (hit km im q z) A B + bag (canon (pairL km im kept Bt)) q z := by
  rw [dbl_right, bag_canon, bag_pair hT hA, dbl_of_tot hk (fun _ => rfl)]
/-! tables that tell the same are the same dict -/
theorem dsame_tb {f : List Int → Int} {E : List (List Int × Int)} (hE : Tb f E) : ∀ {D : List (List Int × Int)}, (∀ x ∈ D, x ∈ E) → dsame (akP rE D) (avP PV.int D) (akP rE E) (avP PV.int E) = true
  | [], _ => rfl
  | x :: D, h => by
    have ih := dsame_tb hE (D := D) fun y hy => h y (List.mem_cons_of_mem _ hy)
    have hx := (tb_get (f := f) hE.nd (r := x.1) (c := x.2)).mpr (h x List.mem_cons_self)
    show (sameI (PV.int x.2) (dlook (akP rE E) (avP PV.int E) (rE.p x.1)) && dsame (akP rE D) (avP PV.int D) (akP rE E) (avP PV.int E)) = true
    rw [ih, dlook_eq, hx, Bool.and_true]
    show decide (x.2 = x.2) = true
    exact decide_eq_true rfl
theorem tb_same {f : List Int → Int} {D E : List (List Int × Int)} (hD : Tb f D) (hE : Tb f E) : (decide ((akP rE D).length = (akP rE E).length) && dsame (akP rE D) (avP PV.int D) (akP rE E) (avP PV.int E)) = true := by
  rw [ak_len, ak_len, (hD.perm hE).length_eq, decide_eq_true rfl, dsame_tb hE fun x hx => (hD.perm hE).mem_iff.mp hx]
  rfl
end DL

namespace DL
open PySem L2
local macro_rules | `(tactic| walk_at "go") => `(tactic| repeat (first | refine wp_mb ?_ | with_reducible refine wp_mul (by first | assumption | (exact okMul_iff.mpr (by omega))) ?_ | with_reducible refine wp_mod (by first | assumption | (exact okMod_iff.mpr (by omega))) ?_ | with_reducible refine wp_div (by first | assumption | (exact okDiv_iff.mpr (by omega))) ?_ | with_reducible refine wp_pow (by first | assumption | (exact okPow_iff.mpr (by decide))) ?_ | ((with_reducible refine wp_set ?_ ?_ ?_); (focus rfl); (focus first | exact tT_lb | exact lb_int _ _ | exact lb_bl _ _ | exact lb_non _ | assumption)) | refine wp_eq rfl ?_))
/-! W1 of k28: tidy lists (turned to ticks from W2_k10) -/
theorem chE_m : chE.m ≤ 60 := by decide
theorem tup_lb {n : Nat} {xs : List PV} (h : lbs n xs = true) : (PV.tup xs).lb n = true := by rw [lb_tup]; exact h
theorem lst_lb {n : Nat} {xs : List PV} (h : lbs n xs = true) : (PV.lst xs).lb n = true := by rw [lb_lst]; exact h
theorem chP_lb {n : Nat} {x : Chg} : (chP x).lb n = true := by
  unfold chP
  refine tup_lb ?_
  rw [lbs_cons, lbs_cons, lbs_cons, lbs_nil, tT_lb, tT_lb, lb_int]; rfl
theorem chs_lb {n : Nat} {L : List Chg} : lbs n (L.map chP) = true := lbs_map (fun _ => chP_lb) L
theorem chs_lbC {n : Nat} {L : List Chg} : (Cell.lst (L.map chP)).lb n = true := chs_lb
theorem chs_lbV {n : Nat} {L : List Chg} : (PV.lst (L.map chP)).lb n = true := lst_lb chs_lb
theorem newD {env : Env} {st : Sto} : dDct0 true env st = some (.loc st.nxt, st.alloc (.dct [] [] 0)) := by
  unfold dDct0 mkD
  rw [if_pos rfl, lbs_nil]; rfl
theorem wp_setL {x y v : PV} {st s : Sto} {env : Env} {Q : Env → Sto → Prop} (h : setL x y v st = some s) (q : Q env s) : wp ((setL x y v st).map fun s => (env, s)) Q := by
  rw [h]; exact wp_ret q
theorem getI {o : Option Int} : (o.map PV.int).getD (.int 0) = .int (o.getD 0) := by cases o <;> rfl
section
variable {α : Type} [DecidableEq α] (E : Enc α)
def dC (D : List (α × Int)) (t : Nat) : Cell := .dct (akP E D) (avP .int D) t
theorem dC_lb {D : List (α × Int)} {t n : Nat} : (dC E D t).lb n = true := by
  show (lbs n (akP E D) && lbs n (avP .int D)) = true
  rw [ak_lb, show lbs n (avP PV.int D) = true from lbs_map (f := fun x : α × Int => PV.int x.2) (fun x => lb_int n x.2) D]; rfl
theorem dC_get {D : List (α × Int)} {t : Nat} {st : Sto} {l : Nat} {o e f : DE} {env : Env} {s0 s1 s2 : Sto} {k : α} (h0 : o env s0 = some (.loc l, s1)) (h1 : s1.cs l = some (dC E D t)) (h2 : e env s1 = some (E.p k, s2)) (h3 : f env s2 = some (.int 0, st)) (h : st.cs l = some (dC E D t)) : dGet2 o e f env s0 = some (.int ((aget k D).getD 0), st) := by
  rw [dct_get h0 h1 h2 h3 h (ak_good E D k), dlook_eq, getI]
theorem dC_set {D : List (α × Int)} {t : Nat} {st : Sto} {l : Nat} {k : α} {c : Int} (h : st.cs l = some (dC E D t)) (hz : D.length < sizeLine) : setL (.loc l) (E.p k) (.int c) st = some (st.set l (dC E (aput k c D) (t + 1))) := by
  rw [dct_set h (ak_good E D k) (lb_int _ _) (by rw [ak_len]; exact hz), dput_eq]; rfl
theorem dC_ix {D : List (α × Int)} {t : Nat} {st : Sto} {l : Nat} {k : α} (h : st.cs l = some (dC E D t)) (hk : k ∈ D.map (·.1)) : opIx (.loc l) (E.p k) st = some (.int ((aget k D).getD 0), st) := by
  have := aget_mem.mpr hk
  cases e : aget k D with
  | none => rw [e] at this; cases this
  | some c => exact dct_ix h (ak_good E D k) (by rw [dlook_eq, e]; rfl)
/-- sums by key -/
structure DSum (f : α → Int) (D : List (α × Int)) : Prop where
  nd : (D.map (·.1)).Nodup
  val : ∀ k, (aget k D).getD 0 = f k
theorem DSum.nil : DSum (α := α) (fun _ => 0) [] := ⟨.nil, fun _ => rfl⟩
theorem DSum.put {f g : α → Int} {D : List (α × Int)} (h : DSum f D) {k : α} {c : Int} (hg : ∀ j, g j = (if k = j then c else 0) + f j) : DSum g (aput k ((aget k D).getD 0 + c) D) := by
  refine ⟨anodup_put _ _ _ h.nd, fun j => ?_⟩
  rw [aget_put, hg]
  by_cases e : k = j
  · subst e
    rw [if_pos rfl, if_pos rfl, ← h.val k]
    show (aget k D).getD 0 + c = _
    omega
  · rw [if_neg e, if_neg e, h.val j, Int.zero_add]
theorem DSum.same {f g : α → Int} {D : List (α × Int)} (h : DSum f D) (hg : ∀ j, g j = f j) : DSum g D := ⟨h.nd, fun j => by rw [hg, h.val]⟩
theorem DSum.mem {f : α → Int} {D : List (α × Int)} (h : DSum f D) {k : α} (hk : f k ≠ 0) : k ∈ D.map (·.1) := by
  rw [← aget_mem]
  rw [← h.val k] at hk
  cases e : aget k D with
  | none => rw [e] at hk; exact absurd rfl hk
  | some _ => rfl
end
theorem take_step {α : Type} {l : List α} {k : Nat} {y : α} (hy : l[k]? = some y) : l.take (k + 1) = l.take k ++ [y] := by
  rw [List.take_add_one, hy]; rfl
theorem tot_snoc (L : List Chg) (x : Chg) (k : Key) : tot (L ++ [x]) k = (if keyOf x = k then x.2.2 else 0) + tot L k := by
  rw [tot_app, tot_cons]
  show _ + (_ + 0) = _
  omega
theorem kP_ix0 {k : Key} {st : Sto} : opIx (kP k) (.int 0) st = some (tT k.1, st) := rfl
theorem kP_ix1 {k : Key} {st : Sto} : opIx (kP k) (.int 1) st = some (tT k.2, st) := rfl
theorem chP_ix0 {x : Chg} {st : Sto} : opIx (chP x) (.int 0) st = some (tT x.1, st) := rfl
theorem chP_ix1 {x : Chg} {st : Sto} : opIx (chP x) (.int 1) st = some (tT x.2.1, st) := rfl
theorem chP_ix2 {x : Chg} {st : Sto} : opIx (chP x) (.int 2) st = some (.int x.2.2, st) := rfl
theorem lst_up {v : PV} {st : Sto} {xs : List PV} {c : Cell} (h : lstOf st v = some xs) : lstOf (st.alloc c) v = some xs := by
  cases v with
  | lst ys => exact h
  | loc l =>
    have h : (match st.cs l with | some (.lst xs) => some xs | _ => none) = some xs := h
    show (match (st.alloc c).cs l with | some (.lst xs) => some xs | _ => none) = _
    have : l ≠ st.nxt := fun e => by
      subst e
      rw [st.wf _ (Nat.le_refl _)] at h; cases h
    rw [Sto.alloc_ne this]
    exact h
  | _ => cases h

theorem lc_filter {α : Type} {g0 : α → PV} {its : Its} {l : List α} {p : α → Bool} {f : α → PV} {g : DG} {t : DT} {e : DE} {env : Env} {st : Sto} (hi : its.items = l.map g0) (ok : its.ok st)
    (h : ∀ a ∈ l, ∃ e1, g (g0 a) env st = some (e1, st) ∧ t e1 st = some (p a, st) ∧ (p a = true → e e1 st = some (f a, st))) : lcGo its g t e env its.items st = some ((l.filter p).map f, st) := by
  have key : ∀ xs : List α, (∀ x ∈ xs, x ∈ l) → lcGo its g t e env (xs.map g0) st = some ((xs.filter p).map f, st) := by
    intro xs
    induction xs with
    | nil => intro _; rw [List.map_nil, lcGo, if_pos ok]; rfl
    | cons x r ih =>
      intro hx
      obtain ⟨e1, h1, h2, h3⟩ := h x (hx x List.mem_cons_self)
      rw [List.map_cons, lcGo, if_pos ok, h1, mb_some, h2, mb_some, List.filter_cons]
      cases hp : p x with
      | true =>
        rw [if_pos rfl, if_pos rfl, h3 hp, mb_some, ih fun y hy => hx y (List.mem_cons_of_mem _ hy), mb_some]
        rfl
      | false =>
        rw [if_neg (by decide), if_neg (by decide)]
        exact ih fun y hy => hx y (List.mem_cons_of_mem _ hy)
  rw [hi]
  exact key l fun _ z => z
theorem tidy_wp {L : List Chg} {v : PV} {st : Sto} {Q : PV → Sto → Prop} (hz : L.length ≤ 1000000) (hv : lstOf st v = some (L.map chP)) (q : Q (.loc st.nxt) (st.alloc (.lst ((canon L).map chP)))) : wp (f_tidy [v] st) Q := by
  unfold f_tidy
  refine wp_runF rfl ?_
  show wp (D_tidy [some v, none, none, none, none, none] st) _
  unfold D_tidy
  refine wp_mb (wp_mb (wp_eq newD ?_))
  have hv1 := lst_up (c := .dct [] [] 0) hv
  obtain ⟨src, i1, i2⟩ := itsOf_lst hv
  obtain ⟨src', j1, j2⟩ := itsOf_lst hv1
  walk_at "go"
  refine wp_eq j1 ?_
  walk_at "go"
  refine forGo_wp (its := ⟨L.map chP, src'⟩) (fun k env s => (∃ u2 u3 u4, env = [some v, some (.loc st.nxt), u2, u3, u4, none]) ∧ ∃ D t, s = st.alloc (dC kE D t) ∧ DSum (tot (L.take k)) D ∧ D.length ≤ k) _ (fun k x env s hx hI => ?_) (fun env s hI => ?_) ⟨⟨_, _, _, rfl⟩, [], 0, rfl, .nil, Nat.zero_le _⟩
  · obtain ⟨⟨u2, u3, u4, rfl⟩, D, t, rfl, hD, hl⟩ := hI
    obtain ⟨y, hy, hm, rfl⟩ := get_map hx
    have hk := (List.getElem?_eq_some_iff.mp hy).1
    have hc : (st.alloc (dC kE D t)).cs st.nxt = some (dC kE D t) := Sto.alloc_get (dC_lb kE)
    refine ⟨j2 _ fun l e => ?_, wp_eq rfl ?_⟩
    · subst e
      have : l ≠ st.nxt := fun e => by
        subst e
        have hv : (match st.cs st.nxt with | some (.lst xs) => some xs | _ => none) = some (L.map chP) := hv
        rw [st.wf _ (Nat.le_refl _)] at hv; cases hv
      rw [Sto.alloc_ne this, Sto.alloc_ne this]
    walk_at "go"
    refine wp_eq (dC_get kE (k := (y.2.1, y.1)) rfl hc rfl rfl hc) ?_
    walk_at "go"
    refine wp_setL (dC_set kE (k := (y.2.1, y.1)) hc (by rw [sizeLine_eq]; omega)) ?_
    walk_at "go"
    refine ⟨⟨_, _, _, rfl⟩, _, _, Sto.alloc_set (dC_lb kE) (dC_lb kE), ?_, Nat.le_trans (aput_len _ _ _) (by omega)⟩
    rw [take_step hy]
    exact hD.put fun j => by rw [tot_snoc]; rfl
  · obtain ⟨⟨u2, u3, u4, rfl⟩, D, t, rfl, hD, hl⟩ := hI
    have hl : D.length ≤ L.length := by have hl : D.length ≤ (L.map chP).length := hl; rw [List.length_map] at hl; exact hl
    have hc : (st.alloc (dC kE D t)).cs st.nxt = some (dC kE D t) := Sto.alloc_get (dC_lb kE)
    rw [show (Its.mk (L.map chP) src').items.length = L.length from List.length_map _, List.take_length] at hD
    refine ⟨j2 _ fun l e => ?_, ?_⟩
    · subst e
      have : l ≠ st.nxt := fun e => by
        subst e
        have hv : (match st.cs st.nxt with | some (.lst xs) => some xs | _ => none) = some (L.map chP) := hv
        rw [st.wf _ (Nat.le_refl _)] at hv; cases hv
      rw [Sto.alloc_ne this, Sto.alloc_ne this]
    walk_at "go"
    show wp (bSorted false [.loc st.nxt] (st.alloc (dC kE D t))) _
    rw [dct_sorted hc, akP_map, kE.sortGo_eq (by rw [List.length_map, sizeLine_eq]; omega) fun a _ => ⟨_, _, rfl⟩]
    have hsl : (kE.sort (D.map (·.1))).length = D.length := by rw [kE.sort_len, List.length_map]
    refine wp_eq (mkV_eq (okL (by rw [List.length_map, hsl]; omega))) ?_
    walk_at "go"
    refine wp_eq (lc_filter (its := ⟨(kE.sort (D.map (·.1))).map kE.p, none⟩) (l := kE.sort (D.map (·.1))) (p := fun k => decide ((aget k D).getD 0 ≠ 0)) (f := fun k => chP (mkC (fun k => (aget k D).getD 0) k)) rfl Its.ok_none fun k hk => ⟨_, rfl, eq_of_wp ?_, fun hp => eq_of_wp ?_⟩) ?_
    · have hk := kE.sort_mem.mp hk
      walk_at "go"
      refine wp_eq (dC_ix kE hc hk) ?_
      walk_at "go"
      rw [eqv_int]
      first
        | (refine ⟨?_, rfl⟩; by_cases e : (aget k D).getD 0 = 0 <;> simp [e])
        | (refine wp_ret ⟨?_, rfl⟩; by_cases e : (aget k D).getD 0 = 0 <;> simp [e])
    · have hk := kE.sort_mem.mp hk
      walk_at "go"
      refine wp_eq (dC_ix kE hc hk) ?_
      walk_at "go"
      exact ⟨rfl, rfl⟩
    have e : ((kE.sort (D.map (·.1))).filter fun k => decide ((aget k D).getD 0 ≠ 0)).map (fun k => chP (mkC (fun k => (aget k D).getD 0) k)) = (canon L).map chP := by
      have := canon_of (S := kE.sort (D.map (·.1))) (f := fun k => (aget k D).getD 0) (L := L) (.of hD.nd) (fun k => hD.val k) fun k hk => kE.sort_mem.mpr (hD.mem hk)
      rw [← this]
      unfold canonK
      rw [List.map_map]; rfl
    rw [e]
    refine wp_eq (mkM_eq (okL (by rw [List.length_map]; have := canon_len L; omega)) chs_lb) ?_
    walk_at "go"
    refine wp_eq (fin_loc (by rw [Sto.alloc_nxt]; omega) (Sto.alloc_get chs_lbC) chs_lbC) ?_
    rw [Sto.restr_alloc (by rw [Sto.alloc_nxt]; omega), Sto.restr_alloc (Nat.le_refl _), Sto.restr_self]
    exact q
end DL

namespace DL
open PySem L2
local macro_rules | `(tactic| walk_at "go") => `(tactic| repeat (first | refine wp_mb ?_ | with_reducible refine wp_mul (by first | assumption | (exact okMul_iff.mpr (by omega))) ?_ | with_reducible refine wp_mod (by first | assumption | (exact okMod_iff.mpr (by omega))) ?_ | with_reducible refine wp_div (by first | assumption | (exact okDiv_iff.mpr (by omega))) ?_ | with_reducible refine wp_pow (by first | assumption | (exact okPow_iff.mpr (by decide))) ?_ | ((with_reducible refine wp_set ?_ ?_ ?_); (focus rfl); (focus first | exact tT_lb | exact lb_int _ _ | exact lb_bl _ _ | exact lb_non _ | assumption)) | refine wp_eq rfl ?_))
/-! S: statement by statement: what comes behind a statement stays out of sight while it is walked -/
def Cont (K B : DS) (Q : Fl → Sto → Prop) : Prop := ∀ e s, wp (B e s) Q → wp (K e s) Q
theorem wp_seqK {A B : DS} {env : Env} {st : Sto} {Q : Fl → Sto → Prop} (h : ∀ K : DS, Cont K B Q → wp (A env st) fun f s => wp (match f with | .nx e => K e s | f => some (f, s)) Q) : wp (sSeq A B env st) Q := by
  have := h B fun _ _ z => z
  obtain ⟨f, s, e, q⟩ := this
  show wp (mb (A env st) _) Q
  rw [e]
  exact q
theorem wp_nx {K B : DS} {e : Env} {s : Sto} {Q : Fl → Sto → Prop} (h : Cont K B Q) (q : wp (B e s) Q) : wp (K e s) Q := h e s q
/-! W0_v4: tools (from W0_k11) -/
theorem settle_new {st : Sto} {xs : List PV} (h : lbs st.nxt xs = true) : settle st.nxt (.loc st.nxt) (st.alloc (.lst xs)) = some (.lst xs, st) := by
  have hc : (Cell.lst xs).lb st.nxt = true := h
  unfold settle
  rw [PV.res_loc (Nat.le_refl _) (Sto.alloc_get hc) hc, Sto.restr_alloc (Nat.le_refl _), Sto.restr_self]
  rfl
theorem wp_settle {b : Nat} {v v' : PV} {s s' : Sto} {X : Option (PV × Sto)} {Q : PV → Sto → Prop} (h : settle b v s = some (v', s')) (q : Q v' s') : wp (if false = true then X else settle b v s) Q := by
  rw [if_neg (by decide), h]
  exact wp_ret q
theorem wp_sIf {t : DT} {a b : DS} {env : Env} {st s1 : Sto} {x : Bool} {Q : Fl → Sto → Prop} (ht : t env st = some (x, s1)) (h : wp (if x then a env s1 else b env s1) Q) : wp (sIf t a b env st) Q := by
  unfold sIf
  rw [ht, mb_some]
  exact h
def Ab (st s : Sto) : Prop := st.nxt ≤ s.nxt ∧ s.restr st.nxt = st
theorem Ab.refl {st : Sto} : Ab st st := ⟨Nat.le_refl _, Sto.restr_self _⟩
theorem Ab.alloc {st s : Sto} {c : Cell} (h : Ab st s) : Ab st (s.alloc c) := ⟨by rw [Sto.alloc_nxt]; exact Nat.le_succ_of_le h.1, by rw [Sto.restr_alloc h.1]; exact h.2⟩
theorem Ab.set {st s : Sto} {l : Nat} {c : Cell} (h : Ab st s) (hl : st.nxt ≤ l) : Ab st (s.set l c) := ⟨h.1, by rw [Sto.restr_set_ge hl]; exact h.2⟩
theorem Ab.kill {st s : Sto} {l : Nat} (h : Ab st s) (hl : st.nxt ≤ l) : Ab st (s.kill l) := ⟨h.1, by rw [Sto.restr_kill_ge hl]; exact h.2⟩
theorem Ab.get {st s : Sto} {l : Nat} {c : Cell} (h : Ab st s) (hc : st.cs l = some c) : s.cs l = some c := by
  have e := h.2
  have : (s.restr st.nxt).cs l = some c := by rw [e]; exact hc
  exact (Sto.restr_get this).1
theorem seq_nod {v : PV} {st : Sto} {xs : List PV} (h : seqOf st v = some xs) : dkiOf st v = none ∧ dctOf st v = none := by
  cases v with
  | loc l =>
    have h : (match st.cs l with | some (.lst xs) => some xs | _ => none) = some xs := h
    constructor
    · show (match st.cs l with | some (.dki ks vs) => some (ks, vs) | _ => none) = none
      split at h
      · rename_i hl; rw [hl]
      · cases h
    · show (match st.cs l with | some (.dct ks vs _) => some (ks, vs) | _ => none) = none
      split at h
      · rename_i hl; rw [hl]
      · cases h
  | dct _ _ => cases h
  | dki _ _ => cases h
  | _ => exact ⟨rfl, rfl⟩
theorem any_ints (c : Int) : ∀ s : List Int, (s.map PV.int).any (fun z => eqP z (.int c)) = s.contains c
  | [] => rfl
  | x :: s => by
    rw [List.map_cons, List.any_cons, any_ints c s, List.contains_cons]
    show (x == c || s.contains c) = _
    congr 1
    exact Bool.beq_comm
theorem flat_ints : ∀ s : List Int, (s.map PV.int).all flatP = true
  | [] => rfl
  | x :: s => by rw [List.map_cons, List.all_cons, flat_ints s]; rfl
theorem cmpIn_ints {neg : Bool} {c : Int} {y : PV} {s : List Int} {st : Sto} (h : seqOf st y = some (s.map .int)) : cmpIn neg (.int c) y st = some (.bl (s.contains c != neg), st) := by
  obtain ⟨h1, h2⟩ := seq_nod h
  unfold cmpIn
  rw [h1, h2]
  dsimp only
  unfold cmpInS
  rw [h]
  show (if (flatP (.int c) && (s.map PV.int).all flatP) = true then some (PV.bl ((s.map PV.int).any (fun z => eqP z (.int c)) != neg), st) else _) = _
  rw [if_pos (by rw [flat_ints]; rfl), any_ints]
theorem cmpIn_tT {neg : Bool} {c : Int} {s : List Int} {st : Sto} : cmpIn neg (.int c) (tT s) st = some (.bl (s.contains c != neg), st) := cmpIn_ints rfl
theorem any_bls (c : Bool) : ∀ s : List Bool, (s.map PV.bl).any (fun z => eqP z (.bl c)) = s.contains c
  | [] => rfl
  | x :: s => by
    rw [List.map_cons, List.any_cons, any_bls c s, List.contains_cons]
    show (x == c || s.contains c) = _
    congr 1
    exact Bool.beq_comm
theorem flat_bls : ∀ s : List Bool, (s.map PV.bl).all flatP = true
  | [] => rfl
  | x :: s => by rw [List.map_cons, List.all_cons, flat_bls s]; rfl
theorem cmpIn_bls {neg : Bool} {c : Bool} {y : PV} {s : List Bool} {st : Sto} (h : seqOf st y = some (s.map .bl)) : cmpIn neg (.bl c) y st = some (.bl (s.contains c != neg), st) := by
  obtain ⟨h1, h2⟩ := seq_nod h
  unfold cmpIn
  rw [h1, h2]
  dsimp only
  unfold cmpInS
  rw [h]
  show (if (flatP (.bl c) && (s.map PV.bl).all flatP) = true then some (PV.bl ((s.map PV.bl).any (fun z => eqP z (.bl c)) != neg), st) else _) = _
  rw [if_pos (by rw [flat_bls]; rfl), any_bls]
theorem numbG : ∀ (xs : List PV) (b k : Nat), (numb b xs)[k]? = (xs[k]?).map fun y => PV.tup [.int ((b + k : Nat) : Int), y]
  | [], b, k => by cases k <;> rfl
  | x :: xs, b, 0 => rfl
  | x :: xs, b, k + 1 => by
    show (numb (b + 1) xs)[k]? = (xs[k]?).map _
    rw [numbG xs (b + 1) k, show b + 1 + k = b + (k + 1) by omega]
theorem numbL : ∀ (xs : List PV) (b : Nat), (numb b xs).length = xs.length
  | [], _ => rfl
  | x :: xs, b => by show (numb (b + 1) xs).length + 1 = _; rw [numbL xs]; rfl
theorem numb_at {xs : List PV} {k : Nat} {x : PV} (h : (numb 0 xs)[k]? = some x) : ∃ y, xs[k]? = some y ∧ x = .tup [.int (k : Int), y] := by
  rw [numbG, Nat.zero_add] at h
  cases e : xs[k]? with
  | none => rw [e] at h; cases h
  | some y => rw [e] at h; cases h; exact ⟨y, rfl, rfl⟩
theorem rng_at {n k : Nat} {x : PV} (h : (rng 0 (n : Int))[k]? = some x) : k < n ∧ x = .int (k : Int) := by
  obtain ⟨a, b⟩ := rng_get h
  rw [Int.zero_add] at b
  exact ⟨a, b⟩
theorem lc_at {its : Its} {g : DG} {t : DT} {e : DE} {env : Env} {st : Sto} (ok : its.ok st) (q : Nat → Bool) (f : Nat → PV)
    (h : ∀ k x, its.items[k]? = some x → wp (g x env st) fun e1 s1 => s1 = st ∧ wp (t e1 st) fun b s2 => s2 = st ∧ b = q k ∧ (q k = true → wp (e e1 st) fun v s3 => s3 = st ∧ v = f k)) :
    lcGo its g t e env its.items st = some (((List.range its.items.length).filter q).map f, st) := by
  obtain ⟨ys, s, h1, h2, h3⟩ := lcGo_wp (its := its) (g := g) (t := t) (e := e) (env := env) (fun k done s => s = st ∧ done = ((List.range k).filter q).map f) (fun ys s => s = st ∧ ys = ((List.range its.items.length).filter q).map f) (fun k x done s hx hI => by
    obtain ⟨rfl, rfl⟩ := hI
    refine ⟨ok, wp_mono (h k x hx) fun e1 s1 hh => ?_⟩
    obtain ⟨rfl, hh⟩ := hh
    refine wp_mono hh fun b s2 hh => ?_
    obtain ⟨rfl, rfl, hh⟩ := hh
    rw [List.range_succ, List.filter_append, List.map_append]
    cases e : q k with
    | false =>
      rw [if_neg (by decide)]
      refine ⟨rfl, ?_⟩
      rw [List.filter_cons, e, if_neg (by decide)]
      simp
    | true =>
      rw [if_pos rfl]
      refine wp_mono (hh e) fun v s3 hv => ?_
      obtain ⟨rfl, rfl⟩ := hv
      refine ⟨rfl, ?_⟩
      rw [List.filter_cons, e, if_pos rfl]
      rfl) (fun done s hI => by
    obtain ⟨rfl, rfl⟩ := hI
    exact ⟨ok, rfl, rfl⟩) (st := st) ⟨rfl, rfl⟩
  rw [h1, h2, h3]
theorem filter_all {α : Type} {l : List α} : l.filter (fun _ => true) = l := List.filter_eq_self.mpr fun _ _ => rfl
theorem for_all_wp {its : Its} {g : DG} {d : DS} {env : Env} {st : Sto} {Q : Fl → Sto → Prop} (ok : its.ok st) (b : Bool) (P : Env → Prop) (q : Nat → Bool)
    (h : ∀ k x env, its.items[k]? = some x → P env → wp (g x env st) fun e1 s1 => wp (d e1 s1) fun f s2 => s2 = st ∧ (if q k = true then (∃ e, f = .nx e ∧ P e) else f = .rt (.bl b)))
    (h0 : P env) (hq : (List.range its.items.length).all q = true → ∀ e, P e → Q (.nx e) st) (hf : (List.range its.items.length).all q = false → Q (.rt (.bl b)) st) : wp (forGo its g d its.items env st) Q := by
  refine forGo_wp (its := its) (fun k e s => s = st ∧ P e ∧ ∀ j, j < k → q j = true) _ (fun k x e s hx hI => ?_) (fun e s hI => ?_) ⟨rfl, h0, fun j hj => absurd hj (Nat.not_lt_zero _)⟩
  · obtain ⟨rfl, hP, hj⟩ := hI
    refine ⟨ok, wp_mono (h k x e hx hP) fun e1 s1 h1 => wp_mono h1 fun f s2 h2 => ?_⟩
    obtain ⟨rfl, hh⟩ := h2
    cases hk : q k with
    | true =>
      rw [if_pos hk] at hh
      obtain ⟨e', rfl, hP'⟩ := hh
      refine ⟨rfl, hP', fun j hjk => ?_⟩
      by_cases e : j = k
      · subst e; exact hk
      · exact hj j (by omega)
    | false =>
      rw [if_neg (by rw [hk]; decide)] at hh
      subst hh
      refine hf ?_
      rw [List.all_eq_false]
      refine ⟨k, List.mem_range.mpr ?_, by rw [hk]; decide⟩
      exact (List.getElem?_eq_some_iff.mp hx).1
  · obtain ⟨rfl, hP, hj⟩ := hI
    exact ⟨ok, hq (List.all_eq_true.mpr fun j hj' => hj j (List.mem_range.mp hj')) e hP⟩
theorem all_range {α : Type} (l : List α) (d : α) (p : α → Bool) : ((List.range l.length).all fun k => p (l.getD k d)) = l.all p := by
  rw [Bool.eq_iff_iff, List.all_eq_true, List.all_eq_true]
  constructor
  · intro h x hx
    obtain ⟨k, hk, rfl⟩ := List.mem_iff_getElem.mp hx
    have := h k (List.mem_range.mpr hk)
    rwa [List.getD_eq_getElem?_getD, List.getElem?_eq_getElem hk] at this
  · intro h k hk
    have hk := List.mem_range.mp hk
    rw [List.getD_eq_getElem?_getD, List.getElem?_eq_getElem hk]
    exact h _ (List.getElem_mem hk)
theorem getD_some {α : Type} {l : List α} {k : Nat} {d x : α} (h : l[k]? = some x) : l.getD k d = x := by rw [List.getD_eq_getElem?_getD, h]; rfl
abbrev nI (k : Nat) : PV := .int (k : Int)
end DL

namespace DL
open PySem L2
local macro_rules | `(tactic| walk_at "go") => `(tactic| repeat (first | refine wp_mb ?_ | with_reducible refine wp_mul (by first | assumption | (exact okMul_iff.mpr (by omega))) ?_ | with_reducible refine wp_mod (by first | assumption | (exact okMod_iff.mpr (by omega))) ?_ | with_reducible refine wp_div (by first | assumption | (exact okDiv_iff.mpr (by omega))) ?_ | with_reducible refine wp_pow (by first | assumption | (exact okPow_iff.mpr (by decide))) ?_ | ((with_reducible refine wp_set ?_ ?_ ?_); (focus rfl); (focus first | exact tT_lb | exact lb_int _ _ | exact lb_bl _ _ | exact lb_non _ | assumption)) | refine wp_eq rfl ?_))
local macro_rules | `(tactic| walk_at "st") => `(tactic| ((first | (refine wp_seqK ?_; intro K hK) | skip); walk_at "go"))
local macro_rules | `(tactic| walk_at "nx") => `(tactic| ((try dsimp only [List.set_cons_zero, List.set_cons_succ]); refine wp_nx (by assumption) ?_; walk_at "st"))
local macro_rules | `(tactic| walk_at "nk") => `(tactic| ((try dsimp only [List.set_cons_zero, List.set_cons_succ]); refine wp_nx (by assumption) ?_))
/-! W2 of k28: records of a join -/
theorem nis_lb {m : Nat} (l : List Nat) : lbs m (l.map nI) = true := lbs_map (fun k => lb_int _ _) l
theorem tT_at {a : List Int} {k : Nat} (h : k < a.length) {st : Sto} : opIx (tT a) (nI k) st = some (.int (a.getD k 0), st) := by
  rw [List.getD_eq_getElem?_getD, List.getElem?_eq_getElem h]
  exact tup_nat rfl h
theorem lub_eq {a b : List Int} (h : a.length = b.length) (hz : a.length ≤ 1000) {st : Sto} : f_lub [tT a, tT b] st = some (tT (lubL a b), st) := by
  unfold f_lub
  refine runF_eq rfl tT_lb ?_
  show wp (D_lub [some (tT a), some (tT b), none] st) _
  unfold D_lub
  walk_at "go"
  rw [List.length_map]
  refine wp_pos (okR (by omega)) ?_
  walk_at "go"
  refine wp_eq (lc_at (its := ⟨rng 0 (a.length : Int), none⟩) Its.ok_none (fun _ => true) (fun k => .int (max (a.getD k 0) (b.getD k 0))) (fun k x hx => ?_)) ?_
  · obtain ⟨hk, rfl⟩ := rng_at hx
    refine wp_eq rfl ⟨rfl, wp_eq rfl ⟨rfl, rfl, fun _ => ?_⟩⟩
    walk_at "go"
    refine wp_eq (tT_at hk) ?_
    walk_at "go"
    refine wp_eq (tT_at (show k < b.length by omega)) ?_
    walk_at "go"
    rw [max_if]
    first | exact ⟨rfl, rfl⟩ | exact wp_ret ⟨rfl, rfl⟩
  rw [rng_len, filter_all]
  have e : (List.range a.length).map (fun k => PV.int (max (a.getD k 0) (b.getD k 0))) = (lubL a b).map .int := by
    apply List.ext_getElem
    · rw [List.length_map, List.length_map, List.length_range, lubL_len h]
    · intro k h1 h2
      rw [List.length_map, List.length_range] at h1
      rw [List.getElem_map, List.getElem_map, List.getElem_range]
      unfold lubL
      rw [List.getElem_zipWith, List.getD_eq_getElem?_getD, List.getElem?_eq_getElem h1, List.getD_eq_getElem?_getD, List.getElem?_eq_getElem (by omega)]
      rfl
  rw [e]
  refine wp_eq (mkV_eq (okL (by rw [List.length_map, lubL_len h]; omega))) ?_
  walk_at "go"
  refine wp_eq (bTuple_lst (by rw [List.length_map, lubL_len h]; omega)) ?_
  walk_at "go"
  exact ⟨rfl, rfl⟩
theorem key_of_eq {r : List Int} {cs : List Nat} (h : ∀ c ∈ cs, c < r.length) (hz : cs.length ≤ 1000) {st : Sto} : f_key_of [tT r, .lst (cs.map nI)] st = some (tT (cs.map fun c => r.getD c 0), st) := by
  unfold f_key_of
  refine runF_eq rfl tT_lb ?_
  show wp (D_key_of [some (tT r), some (.lst (cs.map nI)), none] st) _
  unfold D_key_of
  walk_at "go"
  refine wp_eq (lc_items (its := ⟨cs.map nI, none⟩) ((cs.map fun c => r.getD c 0).map .int) Its.ok_none (by rw [List.length_map, List.length_map]; exact (List.length_map _).symm) (fun j x hx => ?_)) ?_
  · obtain ⟨c, hc, hm, rfl⟩ := get_map hx
    refine ⟨_, .int (r.getD c 0), rfl, by rw [List.map_map, List.getElem?_map, hc]; rfl, eq_of_wp ?_⟩
    walk_at "go"
    refine wp_eq (tT_at (h c hm)) ?_
    first | exact ⟨rfl, rfl⟩ | exact wp_ret ⟨rfl, rfl⟩
  refine wp_eq (mkV_eq (okL (by rw [List.length_map, List.length_map]; omega))) ?_
  walk_at "go"
  refine wp_eq (bTuple_lst (by rw [List.length_map, List.length_map]; omega)) ?_
  walk_at "go"
  exact ⟨rfl, rfl⟩
/-! terms -/
inductive Sd where
  | l | r | n
def Sd.nm : Sd → Str
  | .l => "left" | .r => "right" | .n => "number"
def tmP (t : Sd × Nat) : PV := .tup [.str t.1.nm, nI t.2]
def imT (l r : List Int) (t : Sd × Nat) : Int := match t.1 with
  | .l => l.getD t.2 0
  | .r => r.getD t.2 0
  | .n => (t.2 : Int)
def imOf (Tm : List (Sd × Nat)) (l r : List Int) : List Int := Tm.map (imT l r)
def TmOk (Tm : List (Sd × Nat)) (w0 w1 : Nat) : Prop := ∀ t ∈ Tm, match t.1 with
  | .l => t.2 < w0
  | .r => t.2 < w1
  | .n => True
theorem shaped_str {x : Str} (h : PyData.strOk x = true) : SeqAt.shaped (.str x) = true := by
  unfold SeqAt.shaped
  rw [PyData.canLay0, PyData.depth, h]
  rfl
theorem cmpEq_str {neg : Bool} {x y : Str} {st : Sto} (hx : PyData.strOk x = true) (hy : PyData.strOk y = true) : cmpEq neg (.str x) (.str y) st = some (.bl ((x == y) != neg), st) := by
  unfold cmpEq
  show (match (PV.str x).toD st.cs, (PV.str y).toD st.cs with | some d, some e => if SeqAt.shaped d && SeqAt.shaped e then some (PV.bl (PyData.eqv d e != neg), st) else none | _, _ => none) = _
  rw [PV.toD, PV.toD]
  show (if SeqAt.shaped (.str x) && SeqAt.shaped (.str y) then some (PV.bl (PyData.eqv (.str x) (.str y) != neg), st) else none) = _
  rw [shaped_str hx, shaped_str hy, eqv_str]
  rfl
theorem nm_ok (sd : Sd) : PyData.strOk sd.nm = true := by cases sd <;> decide +kernel
theorem side_test {env : Env} {st : Sto} {i : Nat} (sd : Sd) {y : Str} (hy : PyData.strOk y = true) (h : env[i]? = some (some (.str sd.nm))) : tVal (dBin (cmpEq false) (dVar i) (dCst (.str y))) env st = some (sd.nm == y, st) := by
  have e : dVar i env st = some (.str sd.nm, st) := by unfold dVar; rw [h]
  unfold tVal dBin
  rw [e, mb_some]
  show mb (cmpEq false (.str sd.nm) (.str y) st) asB = _
  rw [cmpEq_str (nm_ok sd) hy]
  cases (sd.nm == y) <;> rfl
theorem join_record_eq {Tm : List (Sd × Nat)} {l r : List Int} (h : TmOk Tm l.length r.length) (hz : Tm.length ≤ 1000) {st : Sto} : f_join_record [.tup (Tm.map tmP), tT l, tT r] st = some (tT (imOf Tm l r), st) := by
  refine eq_of_wp ?_
  unfold f_join_record
  refine wp_runF rfl ?_
  show wp (D_join_record [some (.tup (Tm.map tmP)), some (tT l), some (tT r), none, none, none] st) _
  unfold D_join_record
  walk_at "st"
  walk_at "nk"
  refine wp_seqK ?_
  intro K hK
  walk_at "go"
  refine forGo_wp (its := ⟨Tm.map tmP, none⟩) (fun k env s => (∃ u4 u5, env = [some (.tup (Tm.map tmP)), some (tT l), some (tT r), some (.loc st.nxt), u4, u5]) ∧ s = st.alloc (.lst ((imOf (Tm.take k) l r).map .int))) _ (fun k x env s hx hI => ?_) (fun env s hI => ?_) ⟨⟨_, _, rfl⟩, rfl⟩
  · obtain ⟨⟨u4, u5, rfl⟩, rfl⟩ := hI
    obtain ⟨t, ht, htm, rfl⟩ := get_map hx
    have hk := (List.getElem?_eq_some_iff.mp ht).1
    have ok := h t htm
    have at0 : (st.alloc (.lst ((imOf (Tm.take k) l r).map .int))).cs st.nxt = some (.lst ((imOf (Tm.take k) l r).map .int)) := Sto.alloc_get ints_lb
    have ln : ((imOf (Tm.take k) l r).map PV.int).length < sizeLine := by
      rw [List.length_map]
      unfold imOf
      rw [List.length_map, List.length_take]
      exact Nat.lt_of_lt_of_le (show min k Tm.length < 1000000 by omega) (okL (Nat.le_refl _))
    have snoc : imOf (Tm.take (k + 1)) l r = imOf (Tm.take k) l r ++ [imT l r t] := by
      unfold imOf
      rw [take_step ht, List.map_append]
      rfl
    have fin : ∀ v, v = imT l r t → (st.alloc (.lst ((imOf (Tm.take k) l r).map .int))).set st.nxt (.lst ((imOf (Tm.take k) l r).map .int ++ [.int v])) = st.alloc (.lst ((imOf (Tm.take (k + 1)) l r).map .int)) := fun v e => by
      rw [snoc, e]
      exact alloc_snoc
    obtain ⟨sd, num⟩ := t
    refine ⟨Its.ok_none, wp_eq (a := [some (.tup (Tm.map tmP)), some (tT l), some (tT r), some (.loc st.nxt), some (.str sd.nm), some (nI num)]) (s := _) rfl ?_⟩
    cases sd with
    | l =>
      refine wp_sIf (side_test .l (y := "left") (by decide +kernel) rfl) ?_
      rw [if_pos (by decide +kernel)]
      walk_at "go"
      refine wp_eq (loc_asL at0) ?_
      walk_at "go"
      refine wp_eq (tT_at ok) ?_
      walk_at "go"
      refine wp_eq (loc_append at0 ln (lb_int _ _)) ?_
      walk_at "go"
      exact ⟨⟨_, _, rfl⟩, fin _ rfl⟩
    | r =>
      refine wp_sIf (side_test .r (y := "left") (by decide +kernel) rfl) ?_
      rw [if_neg (by decide +kernel)]
      refine wp_sIf (side_test .r (y := "right") (by decide +kernel) rfl) ?_
      rw [if_pos (by decide +kernel)]
      walk_at "go"
      refine wp_eq (loc_asL at0) ?_
      walk_at "go"
      refine wp_eq (tT_at ok) ?_
      walk_at "go"
      refine wp_eq (loc_append at0 ln (lb_int _ _)) ?_
      walk_at "go"
      exact ⟨⟨_, _, rfl⟩, fin _ rfl⟩
    | n =>
      refine wp_sIf (side_test .n (y := "left") (by decide +kernel) rfl) ?_
      rw [if_neg (by decide +kernel)]
      refine wp_sIf (side_test .n (y := "right") (by decide +kernel) rfl) ?_
      rw [if_neg (by decide +kernel)]
      walk_at "go"
      refine wp_eq (loc_asL at0) ?_
      walk_at "go"
      refine wp_eq (loc_append at0 ln (lb_int _ _)) ?_
      walk_at "go"
      exact ⟨⟨_, _, rfl⟩, fin _ rfl⟩
  · obtain ⟨⟨u4, u5, rfl⟩, rfl⟩ := hI
    rw [show (Its.mk (Tm.map tmP) none).items.length = Tm.length from List.length_map _, List.take_length]
    refine ⟨Its.ok_none, ?_⟩
    walk_at "nk"
    walk_at "go"
    have hl : (imOf Tm l r).length = Tm.length := List.length_map _
    have e0 : bTuple [.loc st.nxt] (st.alloc (.lst ((imOf Tm l r).map .int))) = some (tT (imOf Tm l r), st.alloc (.lst ((imOf Tm l r).map .int))) := by
      show (match lstOf _ (.loc st.nxt) with | some xs => mkT xs _ | none => none) = _
      rw [lst_loc (Sto.alloc_get ints_lb)]
      exact mkT_eq (okL (by rw [List.length_map, hl]; omega))
    refine wp_eq e0 ?_
    walk_at "go"
    refine wp_eq (fin_val tT_lb) ?_
    rw [Sto.restr_alloc (Nat.le_refl _), Sto.restr_self]
    exact ⟨rfl, rfl⟩
end DL

namespace DL
open PySem L2
local macro_rules | `(tactic| walk_at "go") => `(tactic| repeat (first | refine wp_mb ?_ | with_reducible refine wp_mul (by first | assumption | (exact okMul_iff.mpr (by omega))) ?_ | with_reducible refine wp_mod (by first | assumption | (exact okMod_iff.mpr (by omega))) ?_ | with_reducible refine wp_div (by first | assumption | (exact okDiv_iff.mpr (by omega))) ?_ | with_reducible refine wp_pow (by first | assumption | (exact okPow_iff.mpr (by decide))) ?_ | ((with_reducible refine wp_set ?_ ?_ ?_); (focus rfl); (focus first | exact tT_lb | exact lb_int _ _ | exact lb_bl _ _ | exact lb_non _ | assumption)) | refine wp_eq rfl ?_))
local macro_rules | `(tactic| walk_at "st") => `(tactic| ((first | (refine wp_seqK ?_; intro K hK) | skip); walk_at "go"))
local macro_rules | `(tactic| walk_at "nx") => `(tactic| ((try dsimp only [List.set_cons_zero, List.set_cons_succ]); refine wp_nx (by assumption) ?_; walk_at "st"))
local macro_rules | `(tactic| walk_at "nk") => `(tactic| ((try dsimp only [List.set_cons_zero, List.set_cons_succ]); refine wp_nx (by assumption) ?_))
/-! W3 of k28: pairs of changes -/
theorem dctv_ix {D : List (List Int × Int)} {st : Sto} {r : List Int} {c : Int} (h : aget r D = some c) : opIx (.dct (akP rE D) (avP .int D)) (tT r) st = some (.int c, st) := by
  show (if goodK (akP rE D) (rE.p r) then (dlook (akP rE D) (avP PV.int D) (rE.p r)).map (fun v => (v, st)) else none) = _
  rw [ak_good, if_pos rfl, dlook_eq, h]
  rfl
theorem changes_of_eq {D : List (List Int × Int)} {t : List Int} (nd : (D.map (·.1)).Nodup) (hz : D.length ≤ 1000) {st : Sto} : f_changes_of [.dct (akP rE D) (avP .int D), tT t] st = some (.lst ((D.map fun x => (x.1, t, x.2)).map chP), st) := by
  unfold f_changes_of
  refine runF_eq rfl chs_lbV ?_
  show wp (D_changes_of [some (.dct (akP rE D) (avP .int D)), some (tT t), none] st) _
  unfold D_changes_of
  walk_at "go"
  refine wp_eq (lc_items (its := ⟨akP rE D, none⟩) ((D.map fun x => (x.1, t, x.2)).map chP) Its.ok_none (by rw [List.length_map, List.length_map]; exact (ak_len rE D).symm) (fun j x hx => ?_)) ?_
  · have hx : (D.map fun x => rE.p x.1)[j]? = some x := hx
    obtain ⟨y, hy, hm, rfl⟩ := get_map hx
    refine ⟨_, chP (y.1, t, y.2), rfl, by rw [List.map_map, List.getElem?_map, hy]; rfl, eq_of_wp ?_⟩
    walk_at "go"
    refine wp_eq (dctv_ix ((tb_get (f := fun _ => 0) nd).mpr hm)) ?_
    walk_at "go"
    first | exact ⟨rfl, rfl⟩ | exact wp_ret ⟨rfl, rfl⟩
  refine wp_eq (mkV_eq (okL (by rw [List.length_map, List.length_map]; omega))) ?_
  walk_at "go"
  exact ⟨rfl, rfl⟩
def prP (p : Nat × Nat) : PV := .tup [nI p.1, nI p.2]
structure LineOk (ln : PV) (Pr : List (Nat × Nat)) (Tm : List (Sd × Nat)) : Prop where
  i4 : ∀ st : Sto, opIx ln (.int 4) st = some (.tup (Pr.map prP), st)
  i5 : ∀ st : Sto, opIx ln (.int 5) st = some (.tup (Tm.map tmP), st)
def keyL (Pr : List (Nat × Nat)) (l : List Int) : List Int := (Pr.map (·.1)).map fun c => l.getD c 0
def keyR (Pr : List (Nat × Nat)) (r : List Int) : List Int := (Pr.map (·.2)).map fun c => r.getD c 0
def kmOf (Pr : List (Nat × Nat)) (l r : List Int) : Bool := decide (keyR Pr r = keyL Pr l)
def PrOk (Pr : List (Nat × Nat)) (w0 w1 : Nat) : Prop := Pr.length ≤ 10 ∧ ∀ p ∈ Pr, p.1 < w0 ∧ p.2 < w1
theorem setd_eq {o k v : DE} {env : Env} {s0 s1 s2 s3 : Sto} {p t0 t : Nat} {ks0 vs0 ks vs : List PV} {y z : PV} (h0 : o env s0 = some (.loc p, s1)) (h1 : s1.cs p = some (.dct ks0 vs0 t0)) (h2 : k env s1 = some (y, s2)) (h3 : v env s2 = some (z, s3)) (h : s3.cs p = some (.dct ks vs t))
    (hg : goodK ks y = true) (hz : z.lb s3.nxt = true) (hl : ks.length < sizeLine) : dSetd o k v env s0 = match dlook ks vs y with
      | some u => some (u, s3)
      | none => some (z, s3.set p (.dct (dput ks vs y z).1 (dput ks vs y z).2 (t + 1))) := by
  unfold dSetd
  rw [h0, mb_some, dctAt_of h1]
  show mb (k env s1) _ = _
  rw [h2, mb_some, h3, mb_some, dctAt_of h]
  show (if goodK ks y && z.lb s3.nxt && decide (ks.length < sizeLine) then _ else none) = _
  rw [hg, hz, decide_eq_true hl]
  rfl
theorem aput_new {β : Type} {k : List Int} {v : β} : ∀ {D : List (List Int × β)}, k ∉ D.map (·.1) → aput k v D = D ++ [(k, v)]
  | [], _ => rfl
  | x :: D, h => by
    rw [List.map_cons, List.mem_cons, not_or] at h
    show (if x.1 = k then (x.1, v) :: D else x :: aput k v D) = _
    rw [if_neg (fun e => h.1 e.symm), aput_new h.2]
    rfl
theorem aget_in {β : Type} {k : List Int} {v : β} : ∀ {D : List (List Int × β)}, aget k D = some v → (k, v) ∈ D
  | [], h => by cases h
  | x :: D, h => by
    have h : (if x.1 = k then some x.2 else aget k D) = some v := h
    by_cases e : x.1 = k
    · rw [if_pos e] at h
      rw [← e, ← Option.some.inj h]
      exact List.mem_cons_self
    · rw [if_neg e] at h
      exact List.mem_cons_of_mem _ (aget_in h)
theorem aget_out {β : Type} {k : List Int} {D : List (List Int × β)} (h : aget k D = none) : k ∉ D.map (·.1) := fun hm => by
  have := aget_mem.mpr hm
  rw [h] at this
  cases this
theorem tb_get2 {β : Type} : ∀ {D : List (List Int × β)}, (D.map (·.1)).Nodup → ∀ {r : List Int} {c : β}, aget r D = some c ↔ (r, c) ∈ D
  | [], _, r, c => ⟨fun h => (by cases h), fun h => (by cases h)⟩
  | x :: D, hn, r, c => by
    rw [List.map_cons, List.nodup_cons] at hn
    have ih := tb_get2 hn.2 (r := r) (c := c)
    refine ⟨aget_in, fun h => ?_⟩
    show (if x.1 = r then some x.2 else aget r D) = some c
    by_cases e : x.1 = r
    · rw [if_pos e]
      rcases List.mem_cons.mp h with h | h
      · rw [← h]
      · exact absurd (List.mem_map.mpr ⟨_, h, e.symm⟩) hn.1
    · rw [if_neg e, ih]
      exact (List.mem_cons.mp h).resolve_left fun h => e (by rw [← h])
/-- the changes of the right side, by their keys -/
structure Mt (Pr : List (Nat × Nat)) (st s : Sto) (pm : Nat) (M : List (List Int × Nat)) (t : Nat) (R : List Chg) : Prop where
  ab : Ab st s
  cm : s.cs pm = some (.dct (akP rE M) (avP PV.loc M) t)
  ge : st.nxt ≤ pm
  nd : (M.map (·.1)).Nodup
  ln : (M.map (·.2)).Nodup
  lo : ∀ x ∈ M, pm < x.2
  cl : ∀ x ∈ M, s.cs x.2 = some (.lst ((R.filter fun y => decide (keyR Pr y.1 = x.1)).map chP))
  no : ∀ y ∈ R, keyR Pr y.1 ∈ M.map (·.1)
  len : M.length ≤ R.length
theorem filter_snoc {α : Type} (p : α → Bool) (l : List α) (x : α) : (l ++ [x]).filter p = l.filter p ++ (if p x then [x] else []) := by
  rw [List.filter_append, List.filter_cons, List.filter_nil]
theorem Mt.hit {Pr : List (Nat × Nat)} {st s : Sto} {pm t l : Nat} {M : List (List Int × Nat)} {R : List Chg} {y : Chg} (F : Mt Pr st s pm M t R) (hm : (keyR Pr y.1, l) ∈ M) :
    Mt Pr st (s.set l (.lst ((R.filter fun z => decide (keyR Pr z.1 = keyR Pr y.1)).map chP ++ [chP y]))) pm M t (R ++ [y]) := by
  have hpl := F.lo _ hm
  have hge := F.ge
  refine ⟨F.ab.set (by have : pm < l := hpl; omega), by rw [Sto.set_ne (by have : pm < l := hpl; omega)]; exact F.cm, F.ge, F.nd, F.ln, F.lo, fun x hx => ?_, fun z hz => ?_, by rw [List.length_append]; exact Nat.le_succ_of_le F.len⟩
  · rw [filter_snoc]
    by_cases e : x.2 = l
    · have ek : x = (keyR Pr y.1, l) := by
        have hn := F.ln
        obtain ⟨i, hi, rfl⟩ := List.mem_iff_getElem.mp hx
        obtain ⟨j, hj, ej⟩ := List.mem_iff_getElem.mp hm
        have hij : i = j := by
          have pw := List.pairwise_iff_getElem.mp hn
          by_cases q : i < j
          · exact absurd (by rw [List.getElem_map, List.getElem_map, e, ej]) (pw i j (by rw [List.length_map]; exact hi) (by rw [List.length_map]; exact hj) q)
          · by_cases q2 : j < i
            · exact absurd (by rw [List.getElem_map, List.getElem_map, e, ej]) (pw j i (by rw [List.length_map]; exact hj) (by rw [List.length_map]; exact hi) q2)
            · omega
        subst hij
        exact ej
      subst ek
      rw [if_pos (decide_eq_true rfl), List.map_append]
      exact Sto.set_get (F.cl _ hm) (by show lbs _ _ = true; rw [lbs_append, chs_lb, lbs_cons, chP_lb, lbs_nil]; rfl)
    · have ek : keyR Pr y.1 ≠ x.1 := fun ek => by
        have h1 := (tb_get2 F.nd).mpr hx
        have h2 := (tb_get2 F.nd).mpr hm
        rw [← ek, h2] at h1
        exact e (Option.some.inj h1).symm
      rw [if_neg (by rw [decide_eq_false ek]; decide), List.append_nil, Sto.set_ne e]
      exact F.cl x hx
  · rcases List.mem_append.mp hz with hz | hz
    · exact F.no z hz
    · rw [List.mem_singleton.mp hz]
      exact List.mem_map.mpr ⟨_, hm, rfl⟩
end DL

namespace DL
open PySem L2
local macro_rules | `(tactic| walk_at "go") => `(tactic| repeat (first | refine wp_mb ?_ | with_reducible refine wp_mul (by first | assumption | (exact okMul_iff.mpr (by omega))) ?_ | with_reducible refine wp_mod (by first | assumption | (exact okMod_iff.mpr (by omega))) ?_ | with_reducible refine wp_div (by first | assumption | (exact okDiv_iff.mpr (by omega))) ?_ | with_reducible refine wp_pow (by first | assumption | (exact okPow_iff.mpr (by decide))) ?_ | ((with_reducible refine wp_set ?_ ?_ ?_); (focus rfl); (focus first | exact tT_lb | exact lb_int _ _ | exact lb_bl _ _ | exact lb_non _ | assumption)) | refine wp_eq rfl ?_))
local macro_rules | `(tactic| walk_at "st") => `(tactic| ((first | (refine wp_seqK ?_; intro K hK) | skip); walk_at "go"))
local macro_rules | `(tactic| walk_at "nx") => `(tactic| ((try dsimp only [List.set_cons_zero, List.set_cons_succ]); refine wp_nx (by assumption) ?_; walk_at "st"))
local macro_rules | `(tactic| walk_at "nk") => `(tactic| ((try dsimp only [List.set_cons_zero, List.set_cons_succ]); refine wp_nx (by assumption) ?_))
/-! W4 of k28: pair_changes -/
theorem Mt.lt {Pr : List (Nat × Nat)} {st s : Sto} {pm t : Nat} {M : List (List Int × Nat)} {R : List Chg} (F : Mt Pr st s pm M t R) : pm < s.nxt ∧ ∀ x ∈ M, x.2 < s.nxt := ⟨Sto.lt_of F.cm, fun x hx => Sto.lt_of (F.cl x hx)⟩
theorem Mt.alloc {Pr : List (Nat × Nat)} {st s : Sto} {pm t : Nat} {M : List (List Int × Nat)} {R : List Chg} {c : Cell} (F : Mt Pr st s pm M t R) : Mt Pr st (s.alloc c) pm M t R := by
  obtain ⟨h1, h2⟩ := F.lt
  exact ⟨F.ab.alloc, by rw [Sto.alloc_ne (by omega)]; exact F.cm, F.ge, F.nd, F.ln, F.lo, fun x hx => by rw [Sto.alloc_ne (by have := h2 x hx; omega)]; exact F.cl x hx, F.no, F.len⟩
theorem Mt.other {Pr : List (Nat × Nat)} {st s : Sto} {pm t l : Nat} {M : List (List Int × Nat)} {R : List Chg} {c : Cell} (F : Mt Pr st s pm M t R) (hl : st.nxt ≤ l) (hp : l ≠ pm) (hM : ∀ x ∈ M, x.2 ≠ l) : Mt Pr st (s.set l c) pm M t R :=
  ⟨F.ab.set hl, by rw [Sto.set_ne (Ne.symm hp)]; exact F.cm, F.ge, F.nd, F.ln, F.lo, fun x hx => by rw [Sto.set_ne (hM x hx)]; exact F.cl x hx, F.no, F.len⟩
theorem ml_lb {m : Nat} {M : List (List Int × Nat)} (h : ∀ x ∈ M, x.2 < m) : lbs m (avP PV.loc M) = true := by
  rw [lbs_all, List.all_eq_true]
  intro v hv
  obtain ⟨x, hx, rfl⟩ := List.mem_map.mp hv
  rw [lb_loc]
  exact decide_eq_true (h x hx)
/-- a new key -/
theorem Mt.new {Pr : List (Nat × Nat)} {st s : Sto} {pm t : Nat} {M : List (List Int × Nat)} {R : List Chg} {y : Chg} (F : Mt Pr st s pm M t R) (hm : keyR Pr y.1 ∉ M.map (·.1)) :
    Mt Pr st (((s.alloc (.lst [])).set pm (.dct (akP rE (aput (keyR Pr y.1) s.nxt M)) (avP PV.loc (aput (keyR Pr y.1) s.nxt M)) (t + 1))).set s.nxt (.lst [chP y])) pm (aput (keyR Pr y.1) s.nxt M) (t + 1) (R ++ [y]) := by
  obtain ⟨h1, h2⟩ := F.lt
  have hge := F.ge
  have hab := F.ab.1
  have hnx : ∀ x ∈ M ++ [(keyR Pr y.1, s.nxt)], x.2 < s.nxt + 1 := fun x hx => by
    rcases List.mem_append.mp hx with hx | hx
    · exact Nat.lt_succ_of_lt (h2 x hx)
    · rw [List.mem_singleton.mp hx]; exact Nat.lt_succ_self _
  have hR : R.filter (fun z => decide (keyR Pr z.1 = keyR Pr y.1)) = [] := List.filter_eq_nil_iff.mpr fun z hz h => hm (of_decide_eq_true h ▸ F.no z hz)
  rw [aput_new hm]
  have c0 : (s.alloc (.lst [])).cs pm = some (.dct (akP rE M) (avP PV.loc M) t) := by rw [Sto.alloc_ne (by omega)]; exact F.cm
  have cn : (s.alloc (.lst [])).cs s.nxt = some (.lst []) := Sto.alloc_get (show lbs s.nxt [] = true from lbs_nil _)
  have lbD : (Cell.dct (akP rE (M ++ [(keyR Pr y.1, s.nxt)])) (avP PV.loc (M ++ [(keyR Pr y.1, s.nxt)])) (t + 1)).lb (s.alloc (.lst [])).nxt = true := by
    show (lbs (s.nxt + 1) _ && lbs (s.nxt + 1) _) = true
    rw [ak_lb, ml_lb hnx]; rfl
  refine ⟨((F.ab.alloc).set F.ge).set hab, ?_, F.ge, ?_, ?_, fun x hx => ?_, fun x hx => ?_, fun z hz => ?_, ?_⟩
  · rw [Sto.set_ne (by omega)]
    exact Sto.set_get c0 lbD
  · rw [List.map_append]
    refine List.nodup_append.mpr ⟨F.nd, List.nodup_cons.mpr ⟨by simp, List.nodup_nil⟩, fun a ha b hb e => ?_⟩
    have hb := List.mem_singleton.mp hb
    subst hb
    have e : a = keyR Pr y.1 := e
    rw [e] at ha
    exact hm ha
  · rw [List.map_append]
    refine List.nodup_append.mpr ⟨F.ln, List.nodup_cons.mpr ⟨by simp, List.nodup_nil⟩, fun a ha b hb e => ?_⟩
    have hb := List.mem_singleton.mp hb
    subst hb
    obtain ⟨x, hx, rfl⟩ := List.mem_map.mp ha
    exact absurd e (Nat.ne_of_lt (h2 x hx))
  · rcases List.mem_append.mp hx with hx | hx
    · exact F.lo x hx
    · rw [List.mem_singleton.mp hx]; exact h1
  · rw [filter_snoc]
    rcases List.mem_append.mp hx with hx | hx
    · have hlo := F.lo x hx
      have hlt := h2 x hx
      have hne : keyR Pr y.1 ≠ x.1 := fun e => hm (e ▸ List.mem_map.mpr ⟨x, hx, rfl⟩)
      rw [if_neg (by rw [decide_eq_false hne]; decide), List.append_nil, Sto.set_ne (by omega), Sto.set_ne (by omega), Sto.alloc_ne (by omega)]
      exact F.cl x hx
    · have hx := List.mem_singleton.mp hx
      subst hx
      rw [hR, if_pos (decide_eq_true rfl)]
      refine Sto.set_get (c0 := .lst []) ?_ ?_
      · rw [Sto.set_ne (by omega)]; exact cn
      · show lbs _ _ = true
        rw [lbs_cons, chP_lb, lbs_nil]; rfl
  · rw [List.map_append]
    rcases List.mem_append.mp hz with hz | hz
    · exact List.mem_append_left _ (F.no z hz)
    · rw [List.mem_singleton.mp hz]
      exact List.mem_append_right _ (List.mem_singleton.mpr rfl)
  · rw [List.length_append, List.length_append]
    have := F.len
    show M.length + 1 ≤ R.length + 1
    omega
theorem cols_lc {Pr : List (Nat × Nat)} {ln : PV} {Tm : List (Sd × Nat)} (hl : LineOk ln Pr Tm) (hz : Pr.length ≤ 10) (i : Nat) (w : Nat × Nat → Nat) (hi : ∀ p (st : Sto), opIx (prP p) (.int (i : Int)) st = some (nI (w p), st)) {env : Env} {st : Sto} (h0 : env[0]? = some (some ln)) (h6 : 6 < env.length) :
    dLc false [6] (iSeq (dBin opIx (dVar 0) (dCst (.int 4)))) (gName 6) tYes (dBin opIx (dVar 6) (dCst (.int (i : Int)))) env st = some (.lst ((Pr.map w).map nI), st) := by
  unfold dLc
  have e1 : iSeq (dBin opIx (dVar 0) (dCst (.int 4))) env st = some (⟨Pr.map prP, none⟩, st) := by
    have e0 : dVar 0 env st = some (ln, st) := by unfold dVar; rw [h0]
    unfold iSeq dBin
    rw [e0, mb_some]
    show mb (opIx ln (.int 4) st) itsOf = _
    rw [hl.i4]
    rfl
  rw [e1, mb_some]
  have e2 := lc_items (its := ⟨Pr.map prP, none⟩) (g := gName 6) (e := dBin opIx (dVar 6) (dCst (.int (i : Int)))) (env := wipeE env [6]) (st := st) ((Pr.map w).map nI) Its.ok_none (by rw [List.length_map, List.length_map]; exact (List.length_map _).symm) (fun j x hx => by
    obtain ⟨p, hp, hm, rfl⟩ := get_map hx
    refine ⟨_, nI (w p), rfl, by rw [List.map_map, List.getElem?_map, hp]; rfl, ?_⟩
    have e3 : dVar 6 ((wipeE env [6]).set 6 (some (prP p))) st = some (prP p, st) := by
      unfold dVar
      rw [List.getElem?_set_self (by show 6 < (env.set 6 none).length; rw [List.length_set]; exact h6)]
    unfold dBin
    rw [e3, mb_some]
    exact hi p st)
  rw [e2, mb_some]
  exact mkV_eq (okL (by rw [List.length_map, List.length_map]; omega))
end DL

namespace DL
open PySem L2
local macro_rules | `(tactic| walk_at "go") => `(tactic| repeat (first | refine wp_mb ?_ | with_reducible refine wp_mul (by first | assumption | (exact okMul_iff.mpr (by omega))) ?_ | with_reducible refine wp_mod (by first | assumption | (exact okMod_iff.mpr (by omega))) ?_ | with_reducible refine wp_div (by first | assumption | (exact okDiv_iff.mpr (by omega))) ?_ | with_reducible refine wp_pow (by first | assumption | (exact okPow_iff.mpr (by decide))) ?_ | ((with_reducible refine wp_set ?_ ?_ ?_); (focus rfl); (focus first | exact tT_lb | exact lb_int _ _ | exact lb_bl _ _ | exact lb_non _ | assumption)) | refine wp_eq rfl ?_))
local macro_rules | `(tactic| walk_at "st") => `(tactic| ((first | (refine wp_seqK ?_; intro K hK) | skip); walk_at "go"))
local macro_rules | `(tactic| walk_at "nx") => `(tactic| ((try dsimp only [List.set_cons_zero, List.set_cons_succ]); refine wp_nx (by assumption) ?_; walk_at "st"))
local macro_rules | `(tactic| walk_at "nk") => `(tactic| ((try dsimp only [List.set_cons_zero, List.set_cons_succ]); refine wp_nx (by assumption) ?_))
/-! W5 of k28: the walk of pair_changes, join_step -/
/-- a change that a join reads: width w, times of length n, a count of a thousand bits -/
def ChOk (w n : Nat) (x : Chg) : Prop := x.1.length = w ∧ x.2.1.length = n ∧ x.2.2.natAbs < 2 ^ 1000
theorem pair_len {km : List Int → List Int → Bool} {im : List Int → List Int → List Int} {R : List Chg} : ∀ {L : List Chg}, (pairL km im L R).length ≤ L.length * R.length
  | [] => Nat.zero_le _
  | x :: L => by
    have ih := pair_len (km := km) (im := im) (R := R) (L := L)
    unfold pairL at *
    rw [List.flatMap_cons, List.length_append, List.length_cons, Nat.succ_mul]
    have : (pair1 km im x R).length ≤ R.length := by
      unfold pair1
      rw [List.length_map]
      exact List.length_filter_le _ _
    omega
theorem pair_snoc {km : List Int → List Int → Bool} {im : List Int → List Int → List Int} {R L : List Chg} {x : Chg} : pairL km im (L ++ [x]) R = pairL km im L R ++ pair1 km im x R := by
  unfold pairL
  rw [List.flatMap_append]
  simp
theorem pair_wp {ln : PV} {Pr : List (Nat × Nat)} {Tm : List (Sd × Nat)} {w0 w1 n : Nat} {L R : List Chg} {st : Sto} {Q : PV → Sto → Prop} (hl : LineOk ln Pr Tm) (hP : PrOk Pr w0 w1) (hT : TmOk Tm w0 w1) (hTz : Tm.length ≤ 10) (hL : ∀ x ∈ L, ChOk w0 n x) (hR : ∀ y ∈ R, ChOk w1 n y) (hn : n ≤ 10)
    (hz : L.length ≤ 1000 ∧ R.length ≤ 1000) (q : Q (.loc st.nxt) (st.alloc (.lst ((pairL (kmOf Pr) (imOf Tm) L R).map chP)))) : wp (f_pair_changes [ln, .lst (L.map chP), .lst (R.map chP)] st) Q := by
  have hPz : ∀ (w : Nat × Nat → Nat), (Pr.map w).length ≤ 1000 := fun w => by rw [List.length_map]; have := hP.1; omega
  unfold f_pair_changes
  refine wp_runF rfl ?_
  show wp (D_pair_changes [some ln, some (.lst (L.map chP)), some (.lst (R.map chP)), none, none, none, none, none, none, none, none, none, none, none, none] st) _
  unfold D_pair_changes
  refine wp_seqK ?_
  intro K hK
  refine wp_mb (wp_eq newD ?_)
  walk_at "go"
  walk_at "nk"
  clear hK
  have F0 : Mt Pr st (st.alloc (.dct [] [] 0)) st.nxt [] 0 [] := ⟨Ab.refl.alloc, Sto.alloc_get (by show (lbs st.nxt [] && lbs st.nxt []) = true; rw [lbs_nil]; rfl), Nat.le_refl _, List.nodup_nil, List.nodup_nil, fun x h => (by cases h), fun x h => (by cases h), fun x h => (by cases h), Nat.le_refl _⟩
  refine wp_seqK ?_
  intro K hK
  walk_at "go"
  refine forGo_wp (its := ⟨R.map chP, none⟩) (fun k env s => ∃ u4 u5 M t, env = [some ln, some (.lst (L.map chP)), some (.lst (R.map chP)), some (.loc st.nxt), u4, u5, none, none, none, none, none, none, none, none, none] ∧ Mt Pr st s st.nxt M t (R.take k)) _ (fun k x env s hx hI => ?_) (fun env s hI => ?_) ⟨_, _, [], 0, rfl, F0⟩
  · clear F0
    obtain ⟨u4, u5, M, t, rfl, F⟩ := hI
    obtain ⟨y, hy, hym, rfl⟩ := get_map hx
    have hk := (List.getElem?_eq_some_iff.mp hy).1
    have hyo := hR y hym
    have hMl := F.len
    rw [List.length_take] at hMl
    refine ⟨Its.ok_none, wp_eq rfl ?_⟩
    refine wp_seqK ?_
    intro K2 hK2
    refine wp_mb ?_
    have ek : dCall f_key_of false (aCons (dBin opIx (dVar 4) (dCst (.int 0))) (aCons (dLc false [6] (iSeq (dBin opIx (dVar 0) (dCst (.int 4)))) (gName 6) tYes (dBin opIx (dVar 6) (dCst (.int 1)))) aNil)) ([some ln, some (.lst (L.map chP)), some (.lst (R.map chP)), some (.loc st.nxt), u4, u5, none, none, none, none, none, none, none, none, none].set 4 (some (chP y))) s = some (tT (keyR Pr y.1), s) := by
      refine eq_of_wp ?_
      refine wp_mb (wp_mb (wp_eq (a := tT y.1) (s := s) rfl (wp_mb (wp_mb (wp_eq (cols_lc hl hP.1 1 (·.2) (fun p st => rfl) rfl (by show 6 < 15; decide)) (wp_mb (wp_eq rfl ?_)))))))
      walk_at "go"
      refine wp_eq (key_of_eq (cs := Pr.map (·.2)) (fun c hc => ?_) (hPz _)) ?_
      · obtain ⟨p, hp, rfl⟩ := List.mem_map.mp hc
        rw [hyo.1]
        exact (hP.2 p hp).2
      walk_at "go"
      exact ⟨rfl, rfl⟩
    refine wp_eq ek ?_
    walk_at "go"
    walk_at "nk"
    rw [take_step hy]
    have hnx := F.lt.1
    have F1 := F.alloc (c := .lst [])
    have em : dLst true aNil [some ln, some (.lst (L.map chP)), some (.lst (R.map chP)), some (.loc st.nxt), some (chP y), some (tT (keyR Pr y.1)), none, none, none, none, none, none, none, none, none] s = some (.loc s.nxt, s.alloc (.lst [])) := by
      show mkL true [] s = _
      exact mkM_eq (okL (Nat.zero_le _)) (lbs_nil _)
    have es := setd_eq (o := dVar 3) (k := dVar 5) (v := dLst true aNil) (env := [some ln, some (.lst (L.map chP)), some (.lst (R.map chP)), some (.loc st.nxt), some (chP y), some (tT (keyR Pr y.1)), none, none, none, none, none, none, none, none, none]) (s0 := s) (s1 := s) (s2 := s) (y := rE.p (keyR Pr y.1)) rfl F.cm rfl em F1.cm (ak_good rE M _) (by rw [lb_loc, Sto.alloc_nxt]; exact decide_eq_true (Nat.lt_succ_self _)) (by rw [ak_len]; exact Nat.lt_of_lt_of_le (show M.length < 1000000 by omega) (okL (Nat.le_refl _)))
    rw [dlook_eq] at es
    refine wp_mb (wp_mb ?_)
    cases hg : aget (keyR Pr y.1) M with
    | some l =>
      rw [hg] at es
      have hm := aget_in hg
      refine wp_eq es ?_
      walk_at "go"
      refine wp_eq (loc_asL (F1.cl _ hm)) ?_
      walk_at "go"
      refine wp_eq (loc_append (F1.cl _ hm) (by rw [List.length_map]; exact Nat.lt_of_lt_of_le (Nat.lt_of_le_of_lt (List.length_filter_le _ _) (show (R.take k).length < 1000000 by rw [List.length_take]; omega)) (okL (Nat.le_refl _))) chP_lb) ?_
      walk_at "go"
      exact ⟨_, _, M, t, rfl, F1.hit hm⟩
    | none =>
      rw [hg] at es
      have hm := aget_out hg
      have F2 := F.new hm
      have es2 : dSetd (dVar 3) (dVar 5) (dLst true aNil) [some ln, some (.lst (L.map chP)), some (.lst (R.map chP)), some (.loc st.nxt), some (chP y), some (tT (keyR Pr y.1)), none, none, none, none, none, none, none, none, none] s = some (.loc s.nxt, (s.alloc (.lst [])).set st.nxt (.dct (akP rE (aput (keyR Pr y.1) s.nxt M)) (avP PV.loc (aput (keyR Pr y.1) s.nxt M)) (t + 1))) := by
        refine es.trans ?_
        show some (PV.loc s.nxt, (s.alloc (.lst [])).set st.nxt (.dct (dput (akP rE M) (avP PV.loc M) (rE.p (keyR Pr y.1)) (.loc s.nxt)).1 (dput (akP rE M) (avP PV.loc M) (rE.p (keyR Pr y.1)) (.loc s.nxt)).2 (t + 1))) = _
        rw [dput_eq]
      refine wp_eq es2 ?_
      have cn : ((s.alloc (.lst [])).set st.nxt (.dct (akP rE (aput (keyR Pr y.1) s.nxt M)) (avP PV.loc (aput (keyR Pr y.1) s.nxt M)) (t + 1))).cs s.nxt = some (.lst []) := by
        rw [Sto.set_ne (by omega)]
        exact Sto.alloc_get (show lbs s.nxt [] = true from lbs_nil _)
      walk_at "go"
      refine wp_eq (loc_asL cn) ?_
      walk_at "go"
      refine wp_eq (loc_append cn (by decide) chP_lb) ?_
      walk_at "go"
      exact ⟨_, _, _, _, rfl, F2⟩
  clear F0
  obtain ⟨u4, u5, M, t, rfl, F⟩ := hI
  rw [show (Its.mk (R.map chP) none).items.length = R.length from List.length_map _, List.take_length] at F
  refine ⟨Its.ok_none, ?_⟩
  walk_at "nk"
  clear hK
  refine wp_seqK ?_
  intro K hK
  have em : dLst true aNil [some ln, some (.lst (L.map chP)), some (.lst (R.map chP)), some (.loc st.nxt), u4, u5, none, none, none, none, none, none, none, none, none] s = some (.loc s.nxt, s.alloc (.lst (([] : List Chg).map chP))) := by
    show mkL true [] s = _
    exact mkM_eq (okL (Nat.zero_le _)) (lbs_nil _)
  refine wp_mb (wp_eq em ?_)
  walk_at "go"
  walk_at "nk"
  clear hK em
  obtain ⟨f1, f2⟩ := F.lt
  have hab := F.ab.1
  have G0 : Mt Pr st (s.alloc (.lst (([] : List Chg).map chP))) st.nxt M t R := F.alloc
  have c0 : (s.alloc (.lst (([] : List Chg).map chP))).cs s.nxt = some (.lst (([] : List Chg).map chP)) := Sto.alloc_get chs_lbC
  generalize s.alloc (.lst (([] : List Chg).map chP)) = s0 at G0 c0 ⊢
  generalize s.nxt = pa at f1 f2 hab c0 ⊢
  clear F
  refine wp_seqK ?_
  intro K hK
  walk_at "go"
  refine forGo_wp (its := ⟨L.map chP, none⟩) (fun k env s => ∃ u4 u5 u8 u9 u10 u11 u12 u13 u14, env = [some ln, some (.lst (L.map chP)), some (.lst (R.map chP)), some (.loc st.nxt), u4, u5, none, some (.loc pa), u8, u9, u10, u11, u12, u13, u14] ∧ Mt Pr st s st.nxt M t R ∧ s.cs pa = some (.lst ((pairL (kmOf Pr) (imOf Tm) (L.take k) R).map chP))) _ (fun k x env s hx hI => ?_) (fun env s hI => ?_) ⟨_, _, _, _, _, _, _, _, _, rfl, G0, c0⟩
  · clear G0 c0
    obtain ⟨u4, u5, u8, u9, u10, u11, u12, u13, u14, rfl, F, cA⟩ := hI
    obtain ⟨x, hx', hxm, rfl⟩ := get_map hx
    have hk := (List.getElem?_eq_some_iff.mp hx').1
    have hxo := hL x hxm
    refine ⟨Its.ok_none, wp_eq (a := [some ln, some (.lst (L.map chP)), some (.lst (R.map chP)), some (.loc st.nxt), u4, u5, none, some (.loc pa), some (tT x.1), some (tT x.2.1), some (.int x.2.2), u11, u12, u13, u14]) (s := s) rfl ?_⟩
    refine wp_seqK ?_
    intro K2 hK2
    refine wp_mb ?_
    have ek : dCall f_key_of false (aCons (dVar 8) (aCons (dLc false [6] (iSeq (dBin opIx (dVar 0) (dCst (.int 4)))) (gName 6) tYes (dBin opIx (dVar 6) (dCst (.int 0)))) aNil)) [some ln, some (.lst (L.map chP)), some (.lst (R.map chP)), some (.loc st.nxt), u4, u5, none, some (.loc pa), some (tT x.1), some (tT x.2.1), some (.int x.2.2), u11, u12, u13, u14] s = some (tT (keyL Pr x.1), s) := by
      refine eq_of_wp ?_
      refine wp_mb (wp_mb (wp_eq (a := tT x.1) (s := s) rfl (wp_mb (wp_mb (wp_eq (cols_lc hl hP.1 0 (·.1) (fun p st => rfl) rfl (by show 6 < 15; decide)) (wp_mb (wp_eq rfl ?_)))))))
      walk_at "go"
      refine wp_eq (key_of_eq (cs := Pr.map (·.1)) (fun c hc => ?_) (hPz _)) ?_
      · obtain ⟨p, hp, rfl⟩ := List.mem_map.mp hc
        rw [hxo.1]
        exact (hP.2 p hp).1
      walk_at "go"
      exact ⟨rfl, rfl⟩
    refine wp_eq ek ?_
    walk_at "go"
    walk_at "nk"
    have eR : pair1 (kmOf Pr) (imOf Tm) x R = (R.filter fun y => decide (keyR Pr y.1 = keyL Pr x.1)).map fun y => (imOf Tm x.1 y.1, lubL x.2.1 y.2.1, x.2.2 * y.2.2) := rfl
    have hwalk : ∃ src, (Its.mk ((R.filter fun y => decide (keyR Pr y.1 = keyL Pr x.1)).map chP) src).ok s ∧ iSeq (dGet2 (dVar 3) (dVar 5) (dLst false aNil)) [some ln, some (.lst (L.map chP)), some (.lst (R.map chP)), some (.loc st.nxt), u4, some (tT (keyL Pr x.1)), none, some (.loc pa), some (tT x.1), some (tT x.2.1), some (.int x.2.2), u11, u12, u13, u14] s = some (⟨(R.filter fun y => decide (keyR Pr y.1 = keyL Pr x.1)).map chP, src⟩, s) ∧
        ∀ s' c, (Its.mk ((R.filter fun y => decide (keyR Pr y.1 = keyL Pr x.1)).map chP) src).ok s' → (Its.mk ((R.filter fun y => decide (keyR Pr y.1 = keyL Pr x.1)).map chP) src).ok (s'.set pa c) := by
      have eg := dct_get (o := dVar 3) (e := dVar 5) (f := dLst false aNil) (env := [some ln, some (.lst (L.map chP)), some (.lst (R.map chP)), some (.loc st.nxt), u4, some (tT (keyL Pr x.1)), none, some (.loc pa), some (tT x.1), some (tT x.2.1), some (.int x.2.2), u11, u12, u13, u14]) (s0 := s) (s1 := s) (s2 := s) (k := rE.p (keyL Pr x.1)) (z := .lst []) rfl F.cm rfl (by show mkL false [] s = _; exact mkV_eq (okL (Nat.zero_le _))) F.cm (ak_good rE M _)
      rw [dlook_eq] at eg
      cases hg : aget (keyL Pr x.1) M with
      | some l =>
        rw [hg] at eg
        have hm := aget_in hg
        have hne : l ≠ pa := fun e => by
          have := f2 _ hm
          have : l < pa := this
          omega
        have hc : s.cs l = some (.lst ((R.filter fun y => decide (keyR Pr y.1 = keyL Pr x.1)).map chP)) := F.cl _ hm
        refine ⟨some (l, .lst ((R.filter fun (y : Chg) => decide (keyR Pr y.1 = keyL Pr x.1)).map chP)), hc, ?_, fun s' c h => ?_⟩
        · unfold iSeq
          rw [eg, mb_some]
          show (match s.cs l with | some (.lst xs) => some (Its.mk xs (some (l, .lst xs)), s) | some (.dct ks vs t) => some (Its.mk ks (some (l, .dct ks vs t)), s) | _ => none) = _
          rw [hc]
        · have h : s'.cs l = _ := h
          show (s'.set pa c).cs l = _
          rw [Sto.set_ne hne]
          exact h
      | none =>
        rw [hg] at eg
        have hm := aget_out hg
        have he : R.filter (fun y => decide (keyR Pr y.1 = keyL Pr x.1)) = [] := List.filter_eq_nil_iff.mpr fun z hz h => hm (of_decide_eq_true h ▸ F.no z hz)
        rw [he]
        refine ⟨none, Its.ok_none, ?_, fun _ _ _ => Its.ok_none⟩
        unfold iSeq
        rw [eg, mb_some]
        rfl
    obtain ⟨src, ok0, ew, okS⟩ := hwalk
    refine wp_mb (wp_eq ew ?_)
    generalize hRf : (R.filter fun y => decide (keyR Pr y.1 = keyL Pr x.1)) = Rf at ok0 okS eR
    have hRfm : ∀ y ∈ Rf, y ∈ R := fun y hy => by rw [← hRf] at hy; exact (List.mem_filter.mp hy).1
    have hRfl : Rf.length ≤ R.length := by rw [← hRf]; exact List.length_filter_le _ _
    have hpl : (pairL (kmOf Pr) (imOf Tm) (L.take k) R).length ≤ 1000 * 1000 := Nat.le_trans pair_len (Nat.mul_le_mul (by rw [List.length_take]; omega) hz.2)
    have hMd : ∀ z ∈ M, z.2 ≠ pa := fun z hz => Nat.ne_of_lt (f2 z hz)
    refine forGo_wp (its := ⟨Rf.map chP, src⟩) (fun j env s => ∃ u11 u12 u13 u14, env = [some ln, some (.lst (L.map chP)), some (.lst (R.map chP)), some (.loc st.nxt), u4, some (tT (keyL Pr x.1)), none, some (.loc pa), some (tT x.1), some (tT x.2.1), some (.int x.2.2), u11, u12, u13, u14] ∧ Mt Pr st s st.nxt M t R ∧ (Its.mk (Rf.map chP) src).ok s ∧ s.cs pa = some (.lst ((pairL (kmOf Pr) (imOf Tm) (L.take k) R ++ (Rf.take j).map fun y => (imOf Tm x.1 y.1, lubL x.2.1 y.2.1, x.2.2 * y.2.2)).map chP))) _ (fun j y env s hy hI => ?_) (fun env s hI => ?_)
      ⟨_, _, _, _, rfl, F, ok0, by rw [List.take_zero, List.map_nil, List.append_nil]; exact cA⟩
    · clear F cA ok0
      obtain ⟨u11, u12, u13, u14, rfl, F, ok0, cA⟩ := hI
      obtain ⟨y, hy', hym, rfl⟩ := get_map hy
      have hj := (List.getElem?_eq_some_iff.mp hy').1
      have hyo := hR y (hRfm y hym)
      refine ⟨ok0, wp_eq (a := [some ln, some (.lst (L.map chP)), some (.lst (R.map chP)), some (.loc st.nxt), u4, some (tT (keyL Pr x.1)), none, some (.loc pa), some (tT x.1), some (tT x.2.1), some (.int x.2.2), some (tT y.1), some (tT y.2.1), some (.int y.2.2), u14]) (s := s) rfl ?_⟩
      refine wp_seqK ?_
      intro K3 hK3
      walk_at "go"
      refine wp_eq (hl.i5 s) ?_
      walk_at "go"
      refine wp_eq (join_record_eq (by rw [hxo.1, hyo.1]; exact hT) (by omega)) ?_
      walk_at "go"
      walk_at "nk"
      walk_at "go"
      refine wp_eq (loc_asL cA) ?_
      walk_at "go"
      refine wp_eq (lub_eq (by rw [hxo.2.1, hyo.2.1]) (by rw [hxo.2.1]; omega)) ?_
      walk_at "go"
      refine wp_mulX (okMulX_iff.mpr ⟨hxo.2.2, hyo.2.2⟩) ?_
      walk_at "go"
      refine wp_eq (loc_append (v := chP (imOf Tm x.1 y.1, lubL x.2.1 y.2.1, x.2.2 * y.2.2)) cA (by rw [List.length_map, List.length_append, List.length_map, List.length_take]; exact Nat.lt_of_lt_of_le (show _ < 10000000 by omega) (by decide)) chP_lb) ?_
      walk_at "go"
      refine ⟨_, _, _, _, rfl, F.other hab (by omega) hMd, okS _ _ ok0, ?_⟩
      have e9 : (pairL (kmOf Pr) (imOf Tm) (L.take k) R ++ (Rf.take j).map fun y => (imOf Tm x.1 y.1, lubL x.2.1 y.2.1, x.2.2 * y.2.2)).map chP ++ [chP (imOf Tm x.1 y.1, lubL x.2.1 y.2.1, x.2.2 * y.2.2)] = (pairL (kmOf Pr) (imOf Tm) (L.take k) R ++ (Rf.take (j + 1)).map fun y => (imOf Tm x.1 y.1, lubL x.2.1 y.2.1, x.2.2 * y.2.2)).map chP := by
        rw [take_step hy']
        simp only [List.map_append, List.append_assoc]
        rfl
      rw [← e9]
      exact Sto.set_get cA (by show lbs _ (_ ++ [chP _]) = true; rw [lbs_append, chs_lb, lbs_cons, chP_lb, lbs_nil]; rfl)
    · obtain ⟨u11, u12, u13, u14, rfl, F, ok0, cA⟩ := hI
      rw [show (Its.mk (Rf.map chP) src).items.length = Rf.length from List.length_map _, List.take_length] at cA
      refine ⟨ok0, _, _, _, _, _, _, _, _, _, rfl, F, ?_⟩
      rw [take_step hx', pair_snoc, eR]
      exact cA
  clear G0 c0
  obtain ⟨u4, u5, u8, u9, u10, u11, u12, u13, u14, rfl, F, cA⟩ := hI
  rw [show (Its.mk (L.map chP) none).items.length = L.length from List.length_map _, List.take_length] at cA
  refine ⟨Its.ok_none, ?_⟩
  walk_at "nk"
  walk_at "go"
  refine wp_eq (fin_loc hab cA chs_lbC) ?_
  rw [F.ab.2]
  exact q
end DL

namespace DL
open PySem L2
local macro_rules | `(tactic| walk_at "go") => `(tactic| repeat (first | refine wp_mb ?_ | with_reducible refine wp_mul (by first | assumption | (exact okMul_iff.mpr (by omega))) ?_ | with_reducible refine wp_mod (by first | assumption | (exact okMod_iff.mpr (by omega))) ?_ | with_reducible refine wp_div (by first | assumption | (exact okDiv_iff.mpr (by omega))) ?_ | with_reducible refine wp_pow (by first | assumption | (exact okPow_iff.mpr (by decide))) ?_ | ((with_reducible refine wp_set ?_ ?_ ?_); (focus rfl); (focus first | exact tT_lb | exact lb_int _ _ | exact lb_bl _ _ | exact lb_non _ | assumption)) | refine wp_eq rfl ?_))
local macro_rules | `(tactic| walk_at "st") => `(tactic| ((first | (refine wp_seqK ?_; intro K hK) | skip); walk_at "go"))
local macro_rules | `(tactic| walk_at "nx") => `(tactic| ((try dsimp only [List.set_cons_zero, List.set_cons_succ]); refine wp_nx (by assumption) ?_; walk_at "st"))
local macro_rules | `(tactic| walk_at "nk") => `(tactic| ((try dsimp only [List.set_cons_zero, List.set_cons_succ]); refine wp_nx (by assumption) ?_))
/-! W6 of k28: join_step, one more count -/
def brt (D : List (List Int × Int)) (t : List Int) : List Chg := D.map fun x => (x.1, t, x.2)
theorem join_left_wp {ln : PV} {Pr : List (Nat × Nat)} {Tm : List (Sd × Nat)} {w0 w1 n : Nat} {D : List (List Int × Int)} {t : List Int} {R : List Chg} {st : Sto} {Q : PV → Sto → Prop} (hl : LineOk ln Pr Tm) (hP : PrOk Pr w0 w1) (hT : TmOk Tm w0 w1) (hTz : Tm.length ≤ 10) (nd : (D.map (·.1)).Nodup)
    (hL : ∀ x ∈ brt D t, ChOk w0 n x) (hR : ∀ y ∈ R, ChOk w1 n y) (hn : n ≤ 10) (hz : D.length ≤ 1000 ∧ R.length ≤ 1000) (q : Q (.loc st.nxt) (st.alloc (.lst ((canon (pairL (kmOf Pr) (imOf Tm) (brt D t) R)).map chP)))) :
    wp (f_join_step [ln, .str (Sd.nm .l), .lst (R.map chP), .dct (akP rE D) (avP .int D), tT t] st) Q := by
  have hbl : (brt D t).length ≤ 1000 := by unfold brt; rw [List.length_map]; exact hz.1
  have hpl : (pairL (kmOf Pr) (imOf Tm) (brt D t) R).length ≤ 1000 * 1000 := Nat.le_trans pair_len (Nat.mul_le_mul hbl hz.2)
  unfold f_join_step
  refine wp_runF rfl ?_
  show wp (D_join_step [some ln, some (.str (Sd.nm .l)), some (.lst (R.map chP)), some (.dct (akP rE D) (avP .int D)), some (tT t), none] st) _
  unfold D_join_step
  refine wp_seqK ?_
  intro K hK
  walk_at "go"
  refine wp_eq (changes_of_eq nd hz.1) ?_
  refine wp_set rfl chs_lbV ?_
  walk_at "go"
  walk_at "nk"
  clear hK
  refine wp_seqK ?_
  intro K hK
  refine wp_sIf (side_test .l (y := "left") (by decide +kernel) rfl) ?_
  rw [if_pos (by decide +kernel)]
  walk_at "go"
  refine pair_wp hl hP hT hTz hL hR hn ⟨hbl, hz.2⟩ ?_
  refine wp_settle (settle_new chs_lb) ?_
  walk_at "go"
  refine tidy_wp (L := pairL (kmOf Pr) (imOf Tm) (brt D t) R) (by omega) rfl ?_
  rw [if_pos rfl]
  walk_at "go"
  refine wp_eq (fin_loc (Nat.le_refl _) (Sto.alloc_get chs_lbC) chs_lbC) ?_
  rw [Sto.restr_alloc (Nat.le_refl _), Sto.restr_self]
  exact q
theorem join_right_wp {ln : PV} {Pr : List (Nat × Nat)} {Tm : List (Sd × Nat)} {w0 w1 n : Nat} {D : List (List Int × Int)} {t : List Int} {L : List Chg} {st : Sto} {Q : PV → Sto → Prop} (hl : LineOk ln Pr Tm) (hP : PrOk Pr w0 w1) (hT : TmOk Tm w0 w1) (hTz : Tm.length ≤ 10) (nd : (D.map (·.1)).Nodup)
    (hR : ∀ x ∈ brt D t, ChOk w1 n x) (hL : ∀ y ∈ L, ChOk w0 n y) (hn : n ≤ 10) (hz : D.length ≤ 1000 ∧ L.length ≤ 1000) (q : Q (.loc st.nxt) (st.alloc (.lst ((canon (pairL (kmOf Pr) (imOf Tm) L (brt D t))).map chP)))) :
    wp (f_join_step [ln, .str (Sd.nm .r), .lst (L.map chP), .dct (akP rE D) (avP .int D), tT t] st) Q := by
  have hbl : (brt D t).length ≤ 1000 := by unfold brt; rw [List.length_map]; exact hz.1
  have hpl : (pairL (kmOf Pr) (imOf Tm) L (brt D t)).length ≤ 1000 * 1000 := Nat.le_trans pair_len (Nat.mul_le_mul hz.2 hbl)
  unfold f_join_step
  refine wp_runF rfl ?_
  show wp (D_join_step [some ln, some (.str (Sd.nm .r)), some (.lst (L.map chP)), some (.dct (akP rE D) (avP .int D)), some (tT t), none] st) _
  unfold D_join_step
  refine wp_seqK ?_
  intro K hK
  walk_at "go"
  refine wp_eq (changes_of_eq nd hz.1) ?_
  refine wp_set rfl chs_lbV ?_
  walk_at "go"
  walk_at "nk"
  clear hK
  refine wp_seqK ?_
  intro K hK
  refine wp_sIf (side_test .r (y := "left") (by decide +kernel) rfl) ?_
  rw [if_neg (by decide +kernel)]
  walk_at "go"
  walk_at "nk"
  clear hK
  walk_at "go"
  refine pair_wp hl hP hT hTz hL hR hn ⟨hz.2, hbl⟩ ?_
  refine wp_settle (settle_new chs_lb) ?_
  walk_at "go"
  refine tidy_wp (L := pairL (kmOf Pr) (imOf Tm) L (brt D t)) (by omega) rfl ?_
  rw [if_pos rfl]
  walk_at "go"
  refine wp_eq (fin_loc (Nat.le_refl _) (Sto.alloc_get chs_lbC) chs_lbC) ?_
  rw [Sto.restr_alloc (Nat.le_refl _), Sto.restr_self]
  exact q
theorem keyEq_rE (a b : List Int) : keyEq (rE.p a) (rE.p b) = decide (a = b) := rE.keyEq_eq a b
theorem drem_eq (r : List Int) : ∀ D : List (List Int × Int), drem (akP rE D) (avP PV.int D) (rE.p r) = (akP rE (arem r D), avP PV.int (arem r D))
  | [] => rfl
  | x :: D => by
    have ih := drem_eq r D
    show drem (rE.p x.1 :: akP rE D) (PV.int x.2 :: avP PV.int D) (rE.p r) = _
    rw [drem, keyEq_rE, ih]
    unfold arem
    rw [List.filter_cons]
    by_cases e : x.1 = r
    · rw [if_pos (decide_eq_true e), if_neg (by rw [decide_eq_false (fun h => h e)]; decide)]
    · rw [if_neg (by rw [decide_eq_false e]; decide), if_pos (decide_eq_true e)]
      rfl
theorem pop1_eq {o k : DE} {env : Env} {s0 s1 s2 : Sto} {p t0 t : Nat} {ks0 vs0 ks vs : List PV} {y u : PV} (h0 : o env s0 = some (.loc p, s1)) (h1 : s1.cs p = some (.dct ks0 vs0 t0)) (h2 : k env s1 = some (y, s2)) (h : s2.cs p = some (.dct ks vs t)) (hg : goodK ks y = true) (hu : dlook ks vs y = some u) :
    dPop1 o k env s0 = some (u, s2.set p (.dct (drem ks vs y).1 (drem ks vs y).2 (t + 1))) := by
  unfold dPop1
  rw [h0, mb_some, dctAt_of h1]
  show mb (k env s1) _ = _
  rw [h2, mb_some, dctAt_of h]
  show (if goodK ks y then (match dlook ks vs y with | some u => some (u, s2.set p (.dct (drem ks vs y).1 (drem ks vs y).2 (t + 1))) | none => none) else none) = _
  rw [hg, if_pos rfl, hu]
theorem law_add_wp {p t : Nat} {D : List (List Int × Int)} {r : List Int} {c : Int} {st : Sto} {Q : PV → Sto → Prop} (h : st.cs p = some (dC rE D t)) (hz : D.length ≤ 100000) (q : ∀ t', Q .non (st.set p (dC rE (tadd D r c) t'))) : wp (f_law_add [.loc p, tT r, .int c] st) Q := by
  have hp := Sto.lt_of h
  unfold f_law_add
  refine wp_runF rfl ?_
  show wp (D_law_add [some (.loc p), some (tT r), some (.int c), none] st) _
  unfold D_law_add
  refine wp_seqK ?_
  intro K hK
  walk_at "go"
  refine wp_eq (dC_get rE (k := r) rfl h rfl rfl h) ?_
  walk_at "go"
  walk_at "nk"
  clear hK
  refine wp_seqK ?_
  intro K hK
  walk_at "go"
  refine wp_setL (dC_set rE (k := r) h (Nat.lt_of_le_of_lt hz (by decide))) ?_
  walk_at "go"
  walk_at "nk"
  clear hK
  have h1 : (st.set p (dC rE (aput r ((aget r D).getD 0 + c) D) (t + 1))).cs p = some (dC rE (aput r ((aget r D).getD 0 + c) D) (t + 1)) := Sto.set_get h (dC_lb rE)
  walk_at "go"
  rw [eqv_int]
  have fin : ∀ s : Sto, s.nxt = st.nxt → fin st.nxt .non s = some (.non, s) := fun s e => by
    rw [fin_val (lb_non _), ← e, Sto.restr_self]
  by_cases z : (aget r D).getD 0 + c = 0
  · refine wp_pos (by rw [z]; rfl) ?_
    have e1 := pop1_eq (o := dVar 0) (k := dVar 1) (env := [some (.loc p), some (tT r), some (.int c), some (.int ((aget r D).getD 0 + c))]) (s0 := st.set p (dC rE (aput r ((aget r D).getD 0 + c) D) (t + 1))) (y := rE.p r) (u := .int ((aget r D).getD 0 + c)) rfl h1 rfl h1 (ak_good rE _ _) (by rw [dlook_eq, aget_put, if_pos rfl]; rfl)
    rw [drem_eq] at e1
    unfold sExpr
    refine wp_mb (wp_eq e1 (wp_eq rfl ?_))
    refine wp_eq (fin _ rfl) ?_
    have e2 : (st.set p (dC rE (aput r ((aget r D).getD 0 + c) D) (t + 1))).set p (.dct (akP rE (arem r (aput r ((aget r D).getD 0 + c) D))) (avP PV.int (arem r (aput r ((aget r D).getD 0 + c) D))) (t + 1 + 1)) = st.set p (dC rE (tadd D r c) (t + 1 + 1)) := by
      rw [Sto.set_set (dC_lb rE)]
      unfold tadd
      rw [if_pos z]
      rfl
    rw [e2]
    exact q _
  · refine wp_neg (by simpa using z) ?_
    walk_at "go"
    rw [show Sto.restr st.nxt (st.set p (dC rE (aput r ((aget r D).getD 0 + c) D) (t + 1))) = st.set p (dC rE (aput r ((aget r D).getD 0 + c) D) (t + 1)) from Sto.restr_self (st.set p (dC rE (aput r ((aget r D).getD 0 + c) D) (t + 1)))]
    have e2 : tadd D r c = aput r ((aget r D).getD 0 + c) D := by
      unfold tadd
      rw [if_neg z]
    rw [← e2]
    exact q _
end DL

namespace DL
open PySem L2
local macro_rules | `(tactic| walk_at "go") => `(tactic| repeat (first | refine wp_mb ?_ | with_reducible refine wp_mul (by first | assumption | (exact okMul_iff.mpr (by omega))) ?_ | with_reducible refine wp_mod (by first | assumption | (exact okMod_iff.mpr (by omega))) ?_ | with_reducible refine wp_div (by first | assumption | (exact okDiv_iff.mpr (by omega))) ?_ | with_reducible refine wp_pow (by first | assumption | (exact okPow_iff.mpr (by decide))) ?_ | ((with_reducible refine wp_set ?_ ?_ ?_); (focus rfl); (focus first | exact tT_lb | exact lb_int _ _ | exact lb_bl _ _ | exact lb_non _ | assumption)) | refine wp_eq rfl ?_))
local macro_rules | `(tactic| walk_at "st") => `(tactic| ((first | (refine wp_seqK ?_; intro K hK) | skip); walk_at "go"))
local macro_rules | `(tactic| walk_at "nx") => `(tactic| ((try dsimp only [List.set_cons_zero, List.set_cons_succ]); refine wp_nx (by assumption) ?_; walk_at "st"))
local macro_rules | `(tactic| walk_at "nk") => `(tactic| ((try dsimp only [List.set_cons_zero, List.set_cons_succ]); refine wp_nx (by assumption) ?_))
/-! W7 of k28: what the law joins -/
theorem row_lc {Pr : List (Nat × Nat)} {ln : PV} {Tm : List (Sd × Nat)} (hl : LineOk ln Pr Tm) (hz : Pr.length ≤ 10) (i : Nat) (w : Nat × Nat → Nat) (hi : ∀ p (st : Sto), opIx (prP p) (.int (i : Int)) st = some (nI (w p), st)) {env : Env} {st : Sto} {j : Nat} {r : List Int} (h0 : env[0]? = some (some ln)) (h6 : 6 < env.length) (hj : env[j]? = some (some (tT r))) (hj6 : j ≠ 6) (hb : ∀ p ∈ Pr, w p < r.length) :
    dLc false [6] (iSeq (dBin opIx (dVar 0) (dCst (.int 4)))) (gName 6) tYes (dBin opIx (dVar j) (dBin opIx (dVar 6) (dCst (.int (i : Int))))) env st = some (.lst (((Pr.map w).map fun c => r.getD c 0).map .int), st) := by
  unfold dLc
  have e1 : iSeq (dBin opIx (dVar 0) (dCst (.int 4))) env st = some (⟨Pr.map prP, none⟩, st) := by
    have e0 : dVar 0 env st = some (ln, st) := by unfold dVar; rw [h0]
    unfold iSeq dBin
    rw [e0, mb_some]
    show mb (opIx ln (.int 4) st) itsOf = _
    rw [hl.i4]
    rfl
  rw [e1, mb_some]
  have e2 := lc_items (its := ⟨Pr.map prP, none⟩) (g := gName 6) (e := dBin opIx (dVar j) (dBin opIx (dVar 6) (dCst (.int (i : Int))))) (env := wipeE env [6]) (st := st) (((Pr.map w).map fun c => r.getD c 0).map .int) Its.ok_none (by rw [List.length_map, List.length_map, List.length_map]; exact (List.length_map _).symm) (fun m x hx => by
    obtain ⟨p, hp, hm, rfl⟩ := get_map hx
    refine ⟨_, .int (r.getD (w p) 0), rfl, by rw [List.map_map, List.map_map, List.getElem?_map, hp]; rfl, ?_⟩
    have e3 : dVar 6 ((wipeE env [6]).set 6 (some (prP p))) st = some (prP p, st) := by
      unfold dVar
      rw [List.getElem?_set_self (by show 6 < (env.set 6 none).length; rw [List.length_set]; exact h6)]
    have e4 : dVar j ((wipeE env [6]).set 6 (some (prP p))) st = some (tT r, st) := by
      unfold dVar
      rw [List.getElem?_set_ne (Ne.symm hj6)]
      show (match (env.set 6 none)[j]? with | some (some v) => some (v, st) | _ => none) = _
      rw [List.getElem?_set_ne (Ne.symm hj6), hj]
    unfold dBin
    rw [e4, mb_some, e3, mb_some]
    show mb (opIx (prP p) (.int (i : Int)) st) _ = _
    rw [hi, mb_some]
    exact tT_at (hb p hm))
  rw [e2, mb_some]
  exact mkV_eq (okL (by rw [List.length_map, List.length_map, List.length_map]; omega))
def sidesP (l r : List Int) : PV := .dki [.inr "left", .inr "right", .inr "number"] [tT l, tT r, .tup (rng 0 100)]
def TmLow (Tm : List (Sd × Nat)) : Prop := ∀ t ∈ Tm, match t.1 with
  | .n => t.2 < 100
  | _ => True
theorem dkv_ix {ks : List KK} {vs : List PV} {k : KK} {v y : PV} {st : Sto} (hy : keyP y = some k) (h : ilook ks vs k = some v) : opIx (.dki ks vs) y st = some (v, st) := by
  unfold opIx
  show (match keyP y with | some i => (ilook ks vs i).map (fun v => (v, st)) | none => none) = _
  rw [hy]
  show (ilook ks vs k).map (fun v => (v, st)) = _
  rw [h]
  rfl
def sideV (l r : List Int) : Sd → PV
  | .l => tT l
  | .r => tT r
  | .n => .tup (rng 0 100)
theorem sides_1 {l r : List Int} (sd : Sd) {st : Sto} : opIx (sidesP l r) (.str sd.nm) st = some (sideV l r sd, st) := by
  cases sd with
  | l =>
    refine dkv_ix (k := .inr (Sd.nm .l)) rfl ?_
    rw [ilook, if_pos (show (Sum.inr ("left" : Str) : KK) = Sum.inr (Sd.nm .l) from rfl)]; rfl
  | r =>
    refine dkv_ix (k := .inr (Sd.nm .r)) rfl ?_
    rw [ilook, if_neg (by decide +kernel), ilook, if_pos (show (Sum.inr ("right" : Str) : KK) = Sum.inr (Sd.nm .r) from rfl)]; rfl
  | n =>
    refine dkv_ix (k := .inr (Sd.nm .n)) rfl ?_
    rw [ilook, if_neg (by decide +kernel), ilook, if_neg (by decide +kernel), ilook, if_pos (show (Sum.inr ("number" : Str) : KK) = Sum.inr (Sd.nm .n) from rfl)]; rfl
theorem sides_2 {l r : List Int} {t : Sd × Nat} {st : Sto} (h : match t.1 with | .l => t.2 < l.length | .r => t.2 < r.length | .n => t.2 < 100) : opIx (sideV l r t.1) (nI t.2) st = some (.int (imT l r t), st) := by
  obtain ⟨sd, k⟩ := t
  cases sd with
  | l => exact tT_at h
  | r => exact tT_at h
  | n =>
    have h : k < 100 := h
    refine seq_ix (xs := rng 0 100) rfl (atI_nat ?_)
    unfold rng
    rw [List.getElem?_map, List.getElem?_range (by show k < 100; exact h)]
    show some (PV.int (0 + (k : Int))) = _
    rw [Int.zero_add]
    rfl
theorem term_lc {Pr : List (Nat × Nat)} {ln : PV} {Tm : List (Sd × Nat)} (hl : LineOk ln Pr Tm) (hz : Tm.length ≤ 10) {l r : List Int} (hT : TmOk Tm l.length r.length) (hN : TmLow Tm) {env : Env} {st : Sto} (h0 : env[0]? = some (some ln)) (h8 : 8 < env.length) (h7 : env[7]? = some (some (sidesP l r))) :
    dLc false [8] (iSeq (dBin opIx (dVar 0) (dCst (.int 5)))) (gName 8) tYes (dBin opIx (dBin opIx (dVar 7) (dBin opIx (dVar 8) (dCst (.int 0)))) (dBin opIx (dVar 8) (dCst (.int 1)))) env st = some (.lst ((imOf Tm l r).map .int), st) := by
  unfold dLc
  have e1 : iSeq (dBin opIx (dVar 0) (dCst (.int 5))) env st = some (⟨Tm.map tmP, none⟩, st) := by
    have e0 : dVar 0 env st = some (ln, st) := by unfold dVar; rw [h0]
    unfold iSeq dBin
    rw [e0, mb_some]
    show mb (opIx ln (.int 5) st) itsOf = _
    rw [hl.i5]
    rfl
  rw [e1, mb_some]
  have e2 := lc_items (its := ⟨Tm.map tmP, none⟩) (g := gName 8) (e := dBin opIx (dBin opIx (dVar 7) (dBin opIx (dVar 8) (dCst (.int 0)))) (dBin opIx (dVar 8) (dCst (.int 1)))) (env := wipeE env [8]) (st := st) ((imOf Tm l r).map .int) Its.ok_none (by unfold imOf; rw [List.length_map, List.length_map]; exact (List.length_map _).symm) (fun m x hx => by
    obtain ⟨t, ht, hm, rfl⟩ := get_map hx
    refine ⟨_, .int (imT l r t), rfl, by unfold imOf; rw [List.map_map, List.getElem?_map, ht]; rfl, ?_⟩
    have e3 : dVar 8 ((wipeE env [8]).set 8 (some (tmP t))) st = some (tmP t, st) := by
      unfold dVar
      rw [List.getElem?_set_self (by show 8 < (env.set 8 none).length; rw [List.length_set]; exact h8)]
    have e4 : dVar 7 ((wipeE env [8]).set 8 (some (tmP t))) st = some (sidesP l r, st) := by
      unfold dVar
      rw [List.getElem?_set_ne (by decide)]
      show (match (env.set 8 none)[7]? with | some (some v) => some (v, st) | _ => none) = _
      rw [List.getElem?_set_ne (by decide), h7]
    have hs := sides_2 (l := l) (r := r) (t := t) (st := st) (by
      have a := hT t hm
      have b := hN t hm
      obtain ⟨sd, k⟩ := t
      cases sd with
      | l => exact a
      | r => exact a
      | n => exact b)
    have e5 : dBin opIx (dVar 8) (dCst (.int 0)) ((wipeE env [8]).set 8 (some (tmP t))) st = some (.str t.1.nm, st) := by
      unfold dBin
      rw [e3, mb_some]
      rfl
    have e6 : dBin opIx (dVar 8) (dCst (.int 1)) ((wipeE env [8]).set 8 (some (tmP t))) st = some (nI t.2, st) := by
      unfold dBin
      rw [e3, mb_some]
      rfl
    have e7 : dBin opIx (dVar 7) (dBin opIx (dVar 8) (dCst (.int 0))) ((wipeE env [8]).set 8 (some (tmP t))) st = some (sideV l r t.1, st) := by
      show mb (dVar 7 _ st) (fun x st1 => mb (dBin opIx (dVar 8) (dCst (.int 0)) _ st1) fun y st2 => opIx x y st2) = _
      rw [e4, mb_some, e5, mb_some]
      exact sides_1 t.1
    show mb (dBin opIx (dVar 7) (dBin opIx (dVar 8) (dCst (.int 0))) _ st) (fun x st1 => mb (dBin opIx (dVar 8) (dCst (.int 1)) _ st1) fun y st2 => opIx x y st2) = _
    rw [e7, mb_some, e6, mb_some]
    exact hs)
  rw [e2, mb_some]
  have : (imOf Tm l r).length = Tm.length := List.length_map _
  exact mkV_eq (okL (by rw [List.length_map]; omega))
end DL

namespace DL
open PySem L2
local macro_rules | `(tactic| walk_at "go") => `(tactic| repeat (first | refine wp_mb ?_ | with_reducible refine wp_mul (by first | assumption | (exact okMul_iff.mpr (by omega))) ?_ | with_reducible refine wp_mod (by first | assumption | (exact okMod_iff.mpr (by omega))) ?_ | with_reducible refine wp_div (by first | assumption | (exact okDiv_iff.mpr (by omega))) ?_ | with_reducible refine wp_pow (by first | assumption | (exact okPow_iff.mpr (by decide))) ?_ | ((with_reducible refine wp_set ?_ ?_ ?_); (focus rfl); (focus first | exact tT_lb | exact lb_int _ _ | exact lb_bl _ _ | exact lb_non _ | assumption)) | refine wp_eq rfl ?_))
local macro_rules | `(tactic| walk_at "st") => `(tactic| ((first | (refine wp_seqK ?_; intro K hK) | skip); walk_at "go"))
local macro_rules | `(tactic| walk_at "nx") => `(tactic| ((try dsimp only [List.set_cons_zero, List.set_cons_succ]); refine wp_nx (by assumption) ?_; walk_at "st"))
local macro_rules | `(tactic| walk_at "nk") => `(tactic| ((try dsimp only [List.set_cons_zero, List.set_cons_succ]); refine wp_nx (by assumption) ?_))
/-! W8 of k28: the law's own join -/
theorem joinT_snoc {km : List Int → List Int → Bool} {im : List Int → List Int → List Int} {D E : List (List Int × Int)} {x : List Int × Int} (z : List Int) : joinT km im (D ++ [x]) E z = joinT km im D E z + x.2 * (E.map fun y => y.2 * ind (km x.1 y.1 && decide (im x.1 y.1 = z))).sum := by
  unfold joinT
  rw [List.map_append, List.sum_append]
  simp
theorem sum_snoc {α : Type} (f : α → Int) (l : List α) (x : α) : ((l ++ [x]).map f).sum = (l.map f).sum + f x := by
  rw [List.map_append, List.sum_append]
  simp
def TbOk (w : Nat) (D : List (List Int × Int)) : Prop := (D.map (·.1)).Nodup ∧ D.length ≤ 100 ∧ ∀ x ∈ D, x.1.length = w ∧ x.2.natAbs < 2 ^ 1000
theorem dct_its {p t : Nat} {D : List (List Int × Int)} {s : Sto} (h : s.cs p = some (dC rE D t)) : itsOf (.loc p) s = some (⟨akP rE D, some (p, dC rE D t)⟩, s) := by
  show (match s.cs p with | some (.lst xs) => some (Its.mk xs (some (p, .lst xs)), s) | some (.dct ks vs t) => some (Its.mk ks (some (p, .dct ks vs t)), s) | _ => none) = _
  rw [h]
  rfl
theorem law_joined_wp {ln : PV} {Pr : List (Nat × Nat)} {Tm : List (Sd × Nat)} {w0 w1 p0 p1 t0 t1 : Nat} {D E : List (List Int × Int)} {st : Sto} {Q : PV → Sto → Prop} (hl : LineOk ln Pr Tm) (hP : PrOk Pr w0 w1) (hT : TmOk Tm w0 w1) (hN : TmLow Tm) (hTz : Tm.length ≤ 10)
    (hD : TbOk w0 D) (hE : TbOk w1 E) (h0 : st.cs p0 = some (dC rE D t0)) (h1 : st.cs p1 = some (dC rE E t1)) (q : ∀ J t, Tb (joinT (kmOf Pr) (imOf Tm) D E) J → Q (.loc st.nxt) (st.alloc (dC rE J t))) : wp (f_law_joined [ln, .loc p0, .loc p1] st) Q := by
  have l0 := Sto.lt_of h0
  have l1 := Sto.lt_of h1
  have hD2 := hD.2.1
  have hE2 := hE.2.1
  unfold f_law_joined
  refine wp_runF rfl ?_
  show wp (D_law_joined [some ln, some (.loc p0), some (.loc p1), none, none, none, none, none, none] st) _
  unfold D_law_joined
  refine wp_seqK ?_
  intro K hK
  refine wp_mb (wp_eq newD ?_)
  walk_at "go"
  walk_at "nk"
  clear hK
  have A0 : Ab st (st.alloc (.dct [] [] 0)) := Ab.refl.alloc
  have c0 : (st.alloc (.dct [] [] 0)).cs st.nxt = some (dC rE [] 0) := Sto.alloc_get (dC_lb rE (D := []) (t := 0))
  refine wp_seqK ?_
  intro K hK
  refine wp_mb (wp_mb (wp_eq rfl ?_))
  refine wp_eq (dct_its (A0.get h0)) ?_
  refine forGo_wp (its := ⟨akP rE D, some (p0, dC rE D t0)⟩) (fun k env s => (∃ u4 u5 u7, env = [some ln, some (.loc p0), some (.loc p1), some (.loc st.nxt), u4, u5, none, u7, none]) ∧ Ab st s ∧ ∃ J t, s.cs st.nxt = some (dC rE J t) ∧ Tb (joinT (kmOf Pr) (imOf Tm) (D.take k) E) J ∧ J.length ≤ k * E.length) _ (fun k x env s hx hI => ?_) (fun env s hI => ?_) ⟨⟨_, _, _, rfl⟩, A0, [], 0, c0, Tb.nil, Nat.zero_le _⟩
  · clear A0 c0
    obtain ⟨⟨u4, u5, u7, rfl⟩, Ab0, J, t, cJ, TJ, lJ⟩ := hI
    have hx : (D.map fun x => rE.p x.1)[k]? = some x := hx
    obtain ⟨d, hd, hdm, rfl⟩ := get_map hx
    have hk := (List.getElem?_eq_some_iff.mp hd).1
    obtain ⟨dw, dn⟩ := hD.2.2 d hdm
    refine ⟨Ab0.get h0, wp_eq (a := [some ln, some (.loc p0), some (.loc p1), some (.loc st.nxt), some (tT d.1), u5, none, u7, none]) (s := s) rfl ?_⟩
    refine wp_mb (wp_mb (wp_eq rfl ?_))
    refine wp_eq (dct_its (Ab0.get h1)) ?_
    have hkE : k * E.length ≤ 100 * 100 := Nat.mul_le_mul (by omega) hE2
    refine forGo_wp (its := ⟨akP rE E, some (p1, dC rE E t1)⟩) (fun j env s => (∃ u5 u7, env = [some ln, some (.loc p0), some (.loc p1), some (.loc st.nxt), some (tT d.1), u5, none, u7, none]) ∧ Ab st s ∧ ∃ J t, s.cs st.nxt = some (dC rE J t) ∧ Tb (fun z => joinT (kmOf Pr) (imOf Tm) (D.take k) E z + d.2 * ((E.take j).map fun y => y.2 * ind (kmOf Pr d.1 y.1 && decide (imOf Tm d.1 y.1 = z))).sum) J ∧ J.length ≤ k * E.length + j) _ (fun j y env s hy hI => ?_) (fun env s hI => ?_)
      ⟨⟨_, _, rfl⟩, Ab0, J, t, cJ, TJ.congr fun r => by simp, by omega⟩
    · clear Ab0 cJ TJ lJ
      obtain ⟨⟨u5, u7, rfl⟩, Ab0, J, t, cJ, TJ, lJ⟩ := hI
      have hy : (E.map fun x => rE.p x.1)[j]? = some y := hy
      obtain ⟨e, he, hem, rfl⟩ := get_map hy
      have hj := (List.getElem?_eq_some_iff.mp he).1
      obtain ⟨ew, en⟩ := hE.2.2 e hem
      refine ⟨Ab0.get h1, wp_eq (a := [some ln, some (.loc p0), some (.loc p1), some (.loc st.nxt), some (tT d.1), some (tT e.1), none, u7, none]) (s := s) rfl ?_⟩
      have r0 := row_lc hl hP.1 0 (·.1) (fun p st => rfl) (env := [some ln, some (.loc p0), some (.loc p1), some (.loc st.nxt), some (tT d.1), some (tT e.1), none, u7, none]) (st := s) (j := 4) (r := d.1) rfl (by show 6 < 9; decide) rfl (by decide) (fun p hp => by rw [dw]; exact (hP.2 p hp).1)
      have r1 := row_lc hl hP.1 1 (·.2) (fun p st => rfl) (env := [some ln, some (.loc p0), some (.loc p1), some (.loc st.nxt), some (tT d.1), some (tT e.1), none, u7, none]) (st := s) (j := 5) (r := e.1) rfl (by show 6 < 9; decide) rfl (by decide) (fun p hp => by rw [ew]; exact (hP.2 p hp).2)
      have test : tVal (dBin (cmpEq false) (dLc false [6] (iSeq (dBin opIx (dVar 0) (dCst (.int 4)))) (gName 6) tYes (dBin opIx (dVar 4) (dBin opIx (dVar 6) (dCst (.int 0))))) (dLc false [6] (iSeq (dBin opIx (dVar 0) (dCst (.int 4)))) (gName 6) tYes (dBin opIx (dVar 5) (dBin opIx (dVar 6) (dCst (.int 1)))))) [some ln, some (.loc p0), some (.loc p1), some (.loc st.nxt), some (tT d.1), some (tT e.1), none, u7, none] s = some (kmOf Pr d.1 e.1, s) := by
        have r0 : dLc false [6] (iSeq (dBin opIx (dVar 0) (dCst (.int 4)))) (gName 6) tYes (dBin opIx (dVar 4) (dBin opIx (dVar 6) (dCst (.int 0)))) [some ln, some (.loc p0), some (.loc p1), some (.loc st.nxt), some (tT d.1), some (tT e.1), none, u7, none] s = _ := r0
        have r1 : dLc false [6] (iSeq (dBin opIx (dVar 0) (dCst (.int 4)))) (gName 6) tYes (dBin opIx (dVar 5) (dBin opIx (dVar 6) (dCst (.int 1)))) [some ln, some (.loc p0), some (.loc p1), some (.loc st.nxt), some (tT d.1), some (tT e.1), none, u7, none] s = _ := r1
        unfold tVal
        rw [show (dBin (cmpEq false) (dLc false [6] (iSeq (dBin opIx (dVar 0) (dCst (.int 4)))) (gName 6) tYes (dBin opIx (dVar 4) (dBin opIx (dVar 6) (dCst (.int 0))))) (dLc false [6] (iSeq (dBin opIx (dVar 0) (dCst (.int 4)))) (gName 6) tYes (dBin opIx (dVar 5) (dBin opIx (dVar 6) (dCst (.int 1))))) [some ln, some (.loc p0), some (.loc p1), some (.loc st.nxt), some (tT d.1), some (tT e.1), none, u7, none] s) = cmpEq false (.lst ((keyL Pr d.1).map .int)) (.lst ((keyR Pr e.1).map .int)) s from by
          show mb (dLc false [6] _ _ _ _ _ s) (fun x st1 => mb (dLc false [6] _ _ _ _ _ st1) fun y st2 => cmpEq false x y st2) = _
          rw [r0, mb_some, r1, mb_some]
          rfl]
        rw [EqE.int.list.cmpEq (a := keyL Pr d.1) (b := keyR Pr e.1) rfl rfl (by decide), mb_some]
        show some (decide (keyL Pr d.1 = keyR Pr e.1) != false, s) = _
        rw [Bool.bne_false]
        unfold kmOf
        congr 2
        exact Bool.eq_iff_iff.mpr (by rw [decide_eq_true_iff, decide_eq_true_iff]; exact ⟨Eq.symm, Eq.symm⟩)
      refine wp_sIf test ?_
      have hstep : ∀ z, joinT (kmOf Pr) (imOf Tm) (D.take k) E z + d.2 * ((E.take (j + 1)).map fun y => y.2 * ind (kmOf Pr d.1 y.1 && decide (imOf Tm d.1 y.1 = z))).sum = (joinT (kmOf Pr) (imOf Tm) (D.take k) E z + d.2 * ((E.take j).map fun y => y.2 * ind (kmOf Pr d.1 y.1 && decide (imOf Tm d.1 y.1 = z))).sum) + d.2 * (e.2 * ind (kmOf Pr d.1 e.1 && decide (imOf Tm d.1 e.1 = z))) := fun z => by
        rw [take_step he, sum_snoc, Int.mul_add, Int.add_assoc]
      cases hkm : kmOf Pr d.1 e.1 with
      | false =>
        rw [if_neg (by decide)]
        refine wp_eq rfl ⟨⟨_, _, rfl⟩, Ab0, J, t, cJ, TJ.congr fun z => ?_, by omega⟩
        rw [hstep z, hkm, Bool.false_and]
        show _ = _ + d.2 * (e.2 * 0)
        rw [Int.mul_zero, Int.mul_zero, Int.add_zero]
      | true =>
        rw [if_pos rfl]
        have e1 : dDisp [.inr "left", .inr "right", .inr "number"] (aCons (dVar 4) (aCons (dVar 5) (aCons (dTupR (dCst (.int 100))) aNil))) [some ln, some (.loc p0), some (.loc p1), some (.loc st.nxt), some (tT d.1), some (tT e.1), none, u7, none] s = some (sidesP d.1 e.1, s) := by
          have e9 : dTupR (dCst (.int 100)) [some ln, some (.loc p0), some (.loc p1), some (.loc st.nxt), some (tT d.1), some (tT e.1), none, u7, none] s = some (.tup (rng 0 100), s) := by
            show (if okRng 100 && decide ((100 : Int).toNat ≤ 1000000) then mkT (rng 0 100) s else none) = _
            rw [if_pos (by rw [okRng_iff.mpr ⟨by decide, by decide⟩]; rfl)]
            exact mkT_eq (okL (by show (rng 0 ((100 : Nat) : Int)).length ≤ _; rw [rng_len]; decide))
          have ea : aCons (dVar 4) (aCons (dVar 5) (aCons (dTupR (dCst (.int 100))) aNil)) [some ln, some (.loc p0), some (.loc p1), some (.loc st.nxt), some (tT d.1), some (tT e.1), none, u7, none] s = some ([tT d.1, tT e.1, .tup (rng 0 100)], s) := by
            refine eq_of_wp ?_
            refine wp_mb (wp_eq rfl (wp_mb (wp_mb (wp_eq rfl (wp_mb (wp_mb (wp_eq e9 ?_)))))))
            walk_at "go"
            exact ⟨rfl, rfl⟩
          unfold dDisp
          rw [ea, mb_some, if_pos ⟨rfl, by decide, by decide +kernel⟩]
          rfl
        refine wp_seqK ?_
        intro K3 hK3
        refine wp_mb (wp_eq e1 ?_)
        walk_at "go"
        walk_at "nk"
        have tl := term_lc hl hTz (l := d.1) (r := e.1) (by rw [dw, ew]; exact hT) hN (env := [some ln, some (.loc p0), some (.loc p1), some (.loc st.nxt), some (tT d.1), some (tT e.1), none, some (sidesP d.1 e.1), none]) (st := s) rfl (by show 8 < 9; decide) rfl
        have hil : (imOf Tm d.1 e.1).length = Tm.length := List.length_map _
        have i0 := dC_ix rE (k := d.1) (Ab0.get h0) (List.mem_map.mpr ⟨d, hdm, rfl⟩)
        have i1 := dC_ix rE (k := e.1) (Ab0.get h1) (List.mem_map.mpr ⟨e, hem, rfl⟩)
        rw [(tb_get (f := fun _ => 0) hD.1).mpr (show (d.1, d.2) ∈ D from hdm)] at i0
        rw [(tb_get (f := fun _ => 0) hE.1).mpr (show (e.1, e.2) ∈ E from hem)] at i1
        have args : (aCons (dVar 3) (aCons (dApp (bTuple) (aCons (dLc false [8] (iSeq (dBin opIx (dVar 0) (dCst (.int 5)))) (gName 8) tYes (dBin opIx (dBin opIx (dVar 7) (dBin opIx (dVar 8) (dCst (.int 0)))) (dBin opIx (dVar 8) (dCst (.int 1))))) aNil)) (aCons (dBin opMul (dBin opIx (dVar 1) (dVar 4)) (dBin opIx (dVar 2) (dVar 5))) aNil))) [some ln, some (.loc p0), some (.loc p1), some (.loc st.nxt), some (tT d.1), some (tT e.1), none, some (sidesP d.1 e.1), none] s = some ([.loc st.nxt, tT (imOf Tm d.1 e.1), .int (d.2 * e.2)], s) := by
          refine eq_of_wp ?_
          refine wp_mb (wp_eq rfl (wp_mb (wp_mb (wp_mb (wp_mb (wp_eq tl (wp_mb (wp_eq rfl (wp_eq rfl ?_)))))))))
          refine wp_eq (bTuple_lst (by rw [List.length_map]; omega)) ?_
          refine wp_mb (wp_mb (wp_mb (wp_mb (wp_eq rfl (wp_mb (wp_eq rfl ?_))))))
          refine wp_eq i0 ?_
          refine wp_mb (wp_mb (wp_eq rfl (wp_mb (wp_eq rfl ?_))))
          refine wp_eq i1 ?_
          refine wp_mulX (okMulX_iff.mpr ⟨dn, en⟩) ?_
          walk_at "go"
          exact ⟨rfl, rfl⟩
        unfold sExpr
        refine wp_mb (wp_mb (wp_eq args ?_))
        refine wp_mb ?_
        refine law_add_wp cJ (by omega) fun t' => ?_
        refine wp_set rfl (lb_non _) ?_
        walk_at "go"
        refine ⟨⟨_, _, rfl⟩, Ab0.set (Nat.le_refl _), tadd J (imOf Tm d.1 e.1) (d.2 * e.2), t', Sto.set_get cJ (dC_lb rE), (TJ.add (imOf Tm d.1 e.1) (d.2 * e.2)).congr fun z => ?_, Nat.le_trans (tadd_len _ _ _) (by omega)⟩
        rw [hstep z, hkm, Bool.true_and]
        congr 1
        by_cases hz : z = imOf Tm d.1 e.1
        · rw [if_pos hz, decide_eq_true hz.symm]
          show _ = d.2 * (e.2 * 1)
          rw [Int.mul_one]
        · rw [if_neg hz, decide_eq_false (fun h => hz h.symm)]
          show _ = d.2 * (e.2 * 0)
          rw [Int.mul_zero, Int.mul_zero]
    · obtain ⟨⟨u5, u7, rfl⟩, Ab0, J, t, cJ, TJ, lJ⟩ := hI
      rw [show (Its.mk (akP rE E) (some (p1, dC rE E t1))).items.length = E.length from ak_len rE E] at TJ lJ
      refine ⟨Ab0.get h1, ⟨_, _, _, rfl⟩, Ab0, J, t, cJ, TJ.congr fun z => ?_, by rw [Nat.succ_mul]; exact lJ⟩
      rw [List.take_length, take_step hd, joinT_snoc]
  · obtain ⟨⟨u4, u5, u7, rfl⟩, Ab0, J, t, cJ, TJ, lJ⟩ := hI
    rw [show (Its.mk (akP rE D) (some (p0, dC rE D t0))).items.length = D.length from ak_len rE D, List.take_length] at TJ
    refine ⟨Ab0.get h0, ?_⟩
    walk_at "nk"
    walk_at "go"
    refine wp_eq (fin_loc (Nat.le_refl _) cJ (dC_lb rE)) ?_
    rw [Ab0.2]
    exact q J t TJ
end DL

namespace DL
open PySem L2
local macro_rules | `(tactic| walk_at "go") => `(tactic| repeat (first | refine wp_mb ?_ | with_reducible refine wp_mul (by first | assumption | (exact okMul_iff.mpr (by omega))) ?_ | with_reducible refine wp_mod (by first | assumption | (exact okMod_iff.mpr (by omega))) ?_ | with_reducible refine wp_div (by first | assumption | (exact okDiv_iff.mpr (by omega))) ?_ | with_reducible refine wp_pow (by first | assumption | (exact okPow_iff.mpr (by decide))) ?_ | ((with_reducible refine wp_set ?_ ?_ ?_); (focus rfl); (focus first | exact tT_lb | exact lb_int _ _ | exact lb_bl _ _ | exact lb_non _ | assumption)) | refine wp_eq rfl ?_))
local macro_rules | `(tactic| walk_at "st") => `(tactic| ((first | (refine wp_seqK ?_; intro K hK) | skip); walk_at "go"))
local macro_rules | `(tactic| walk_at "nx") => `(tactic| ((try dsimp only [List.set_cons_zero, List.set_cons_succ]); refine wp_nx (by assumption) ?_; walk_at "st"))
local macro_rules | `(tactic| walk_at "nk") => `(tactic| ((try dsimp only [List.set_cons_zero, List.set_cons_succ]); refine wp_nx (by assumption) ?_))
/-! W9 of k28: what is told is tidy -/
theorem all_true_false {α : Type} : ∀ l : List α, (l.map fun _ => true).contains false = false
  | [] => rfl
  | _ :: l => by rw [List.map_cons, List.contains_cons, all_true_false l]; rfl
theorem law_numbers_eq {a : List Int} {n : Nat} (h : a.length = n) (hz : n ≤ 1000) {st : Sto} : f_law_numbers [tT a, .int (n : Int)] st = some (.bl true, st) := by
  unfold f_law_numbers
  refine runF_eq rfl (lb_bl _ _) ?_
  show wp (D_law_numbers [some (tT a), some (.int (n : Int)), none] st) _
  unfold D_law_numbers
  refine wp_seqK ?_
  intro K hK
  walk_at "go"
  rw [List.length_map, eqv_int, h, beq_self_eq_true]
  walk_at "go"
  walk_at "nk"
  walk_at "go"
  refine wp_eq (lc_items (its := ⟨a.map .int, none⟩) ((a.map fun _ => true).map .bl) Its.ok_none (by rw [List.length_map, List.length_map]; exact (List.length_map _).symm) (fun j x hx => ?_)) ?_
  · obtain ⟨c, hc, _, rfl⟩ := get_map hx
    refine ⟨_, .bl true, rfl, by rw [List.map_map, List.getElem?_map, hc]; rfl, eq_of_wp ?_⟩
    walk_at "go"
    refine wp_eq whole_int ?_
    walk_at "go"
    exact ⟨rfl, rfl⟩
  refine wp_eq (mkV_eq (okL (by rw [List.length_map, List.length_map]; omega))) ?_
  walk_at "go"
  refine wp_eq (cmpIn_bls (s := a.map fun _ => true) rfl) ?_
  rw [all_true_false]
  walk_at "go"
  exact ⟨rfl, rfl⟩
def mksP (Mk : List (List Int)) : PV := .lst (Mk.map fun m => .lst (m.map .int))
def InMk (Mk : List (List Int)) (t : List Int) : Prop := t.length = Mk.length ∧ ∀ c, c < Mk.length → t.getD c 0 ∈ Mk.getD c []
theorem kE_lt {a b : Key} (h : kE.le a b = true) (hne : a ≠ b) : PySem.W.dataLt (kE.d a) (kE.d b) = true := by
  cases e : PySem.W.dataLt (kE.d a) (kE.d b) with
  | true => rfl
  | false =>
    refine absurd (kE.an h ?_) hne
    show (!PySem.W.dataLt (kE.d a) (kE.d b)) = true
    rw [e]; rfl
theorem cmpGe_k {a b : Key} {st : Sto} (h : kE.le a b = true) (hne : a ≠ b) : cmpGe (kP a) (kP b) st = some (.bl false, st) := by
  show (match (PV.tup [tT a.1, tT a.2]).toD st.cs, (PV.tup [tT b.1, tT b.2]).toD st.cs with
    | some d, some e => if PySem.W.alike d e && decide (min d.depth e.depth ≤ 60) then some (PV.bl (!PySem.W.dataLt d e), st) else none
    | _, _ => none) = _
  rw [show (PV.tup [tT a.1, tT a.2]).toD st.cs = some (kE.d a) from kE.pd a st.cs, show (PV.tup [tT b.1, tT b.2]).toD st.cs = some (kE.d b) from kE.pd b st.cs]
  show (if PySem.W.alike (kE.d a) (kE.d b) && decide (min (kE.d a).depth (kE.d b).depth ≤ 60) then some (PV.bl (!PySem.W.dataLt (kE.d a) (kE.d b)), st) else none) = _
  have hd : min (kE.d a).depth (kE.d b).depth ≤ 60 := by have := kE.dd a; omega
  rw [kE.al, decide_eq_true hd, kE_lt h hne]
  rfl
theorem law_tidied_eq {C : List Chg} {w : Nat} {Mk : List (List Int)} {v : PV} {st : Sto} (hv : lstOf st v = some (C.map chP)) (hz : C.length ≤ 1000000) (hw : w ≤ 1000) (hM : Mk.length ≤ 1000) (hS : Srt kE (C.map keyOf)) (hC : ∀ x ∈ C, x.1.length = w ∧ InMk Mk x.2.1 ∧ x.2.2 ≠ 0) :
    f_law_tidied [v, .int (w : Int), mksP Mk] st = some (.bl true, st) := by
  obtain ⟨f1, f2, f3, f4⟩ := lst_facts (derf_of_lst hv)
  unfold f_law_tidied
  refine runF_eq rfl (lb_bl _ _) ?_
  show wp (D_law_tidied [some v, some (.int (w : Int)), some (mksP Mk), none, none, none] st) _
  unfold D_law_tidied
  refine wp_seqK ?_
  intro K hK
  walk_at "go"
  refine wp_eq (isi_eq (f2 .list)) ?_
  walk_at "go"
  walk_at "nk"
  clear hK
  refine wp_seqK ?_
  intro K hK
  walk_at "go"
  refine wp_eq (seq_len f1) ?_
  rw [List.length_map]
  walk_at "go"
  refine wp_pos (okR hz) ?_
  walk_at "go"
  refine for_all_wp (its := ⟨rng 0 (C.length : Int), none⟩) Its.ok_none false (fun env => ∃ u3 u4 u5, env = [some v, some (.int (w : Int)), some (mksP Mk), u3, u4, u5]) (fun _ => true) (fun k x env hx hI => ?_) ⟨_, _, _, rfl⟩ (fun h env hE => ?_) (fun h => ?_)
  · obtain ⟨u3, u4, u5, rfl⟩ := hI
    obtain ⟨hk, rfl⟩ := rng_at hx
    have at' : ∀ j (hj : j < C.length), opIx v (.int (j : Int)) st = some (chP C[j], st) := fun j hj => seq_ix f1 (atI_nat (by rw [List.getElem?_map, List.getElem?_eq_getElem hj]; rfl))
    obtain ⟨c1, c2, c3⟩ := hC _ (List.getElem_mem hk)
    refine wp_eq rfl ?_
    refine wp_seqK ?_
    intro K2 hK2
    walk_at "go"
    refine wp_eq (at' k hk) ?_
    walk_at "go"
    walk_at "nk"
    clear hK2
    refine wp_seqK ?_
    intro K2 hK2
    walk_at "go"
    refine wp_eq whole_int ?_
    walk_at "go"
    rw [eqv_int, show (C[k].2.2 == 0) = false from by simpa using c3]
    walk_at "go"
    walk_at "nk"
    clear hK2
    refine wp_seqK ?_
    intro K2 hK2
    walk_at "go"
    refine wp_eq (law_numbers_eq c1 hw) ?_
    walk_at "go"
    rw [List.length_map]
    refine wp_eq (law_numbers_eq c2.1 hM) ?_
    walk_at "go"
    walk_at "nk"
    clear hK2
    refine wp_seqK ?_
    intro K2 hK2
    walk_at "go"
    rw [List.length_map]
    refine wp_pos (okR (by omega)) ?_
    walk_at "go"
    refine wp_eq (lc_at (its := ⟨rng 0 (Mk.length : Int), none⟩) Its.ok_none (fun _ => true) (fun _ => .bl true) (fun c x hx => ?_)) ?_
    · obtain ⟨hc, rfl⟩ := rng_at hx
      refine wp_eq rfl ⟨rfl, wp_eq rfl ⟨rfl, rfl, fun _ => ?_⟩⟩
      walk_at "go"
      refine wp_eq (tT_at (show c < C[k].2.1.length by rw [c2.1]; exact hc)) ?_
      walk_at "go"
      have em : opIx (mksP Mk) (.int (c : Int)) st = some (.lst ((Mk.getD c []).map .int), st) := seq_ix (xs := Mk.map fun m => .lst (m.map .int)) rfl (atI_nat (by rw [List.getElem?_map, List.getElem?_eq_getElem hc, List.getD_eq_getElem?_getD, List.getElem?_eq_getElem hc]; rfl))
      refine wp_eq em ?_
      refine wp_eq (cmpIn_ints (s := Mk.getD c []) rfl) ?_
      rw [List.contains_iff_mem.mpr (c2.2 c hc)]
      first | exact ⟨rfl, rfl⟩ | exact wp_ret ⟨rfl, rfl⟩
    rw [rng_len, filter_all]
    refine wp_eq (mkV_eq (okL (by rw [List.length_map, List.length_range]; omega))) ?_
    walk_at "go"
    refine wp_eq (cmpIn_bls (s := (List.range Mk.length).map fun _ => true) (by rw [List.map_map]; rfl)) ?_
    rw [all_true_false]
    walk_at "go"
    walk_at "nk"
    clear hK2
    walk_at "go"
    by_cases hk0 : k = 0
    · subst hk0
      refine wp_neg (by decide) ?_
      walk_at "go"
      first | exact ⟨rfl, _, rfl, _, _, _, rfl⟩ | exact wp_ret ⟨rfl, _, rfl, _, _, _, rfl⟩
    · refine wp_pos (decide_eq_true (show (0 : Int) < (k : Int) by omega)) ?_
      have ep : ((k : Int) - 1) = ((k - 1 : Nat) : Int) := by omega
      walk_at "go"
      rw [ep]
      refine wp_eq (at' (k - 1) (by omega)) ?_
      walk_at "go"
      rw [ep]
      refine wp_eq (at' (k - 1) (by omega)) ?_
      walk_at "go"
      have hpw := List.pairwise_iff_getElem.mp hS.1 (k - 1) k (by rw [List.length_map]; omega) (by rw [List.length_map]; exact hk) (by omega)
      have hnd := List.pairwise_iff_getElem.mp hS.2 (k - 1) k (by rw [List.length_map]; omega) (by rw [List.length_map]; exact hk) (by omega)
      rw [List.getElem_map, List.getElem_map] at hpw hnd
      refine wp_eq (cmpGe_k (a := keyOf C[k - 1]) (b := keyOf C[k]) hpw hnd) ?_
      walk_at "go"
      exact ⟨rfl, _, rfl, _, _, _, rfl⟩
  · obtain ⟨u3, u4, u5, rfl⟩ := hE
    walk_at "nk"
    walk_at "go"
    exact ⟨rfl, rfl⟩
  · rw [List.all_eq_true.mpr (fun _ _ => rfl)] at h
    cases h
theorem canon_srt (L : List Chg) : Srt kE ((canon L).map keyOf) := by
  have e : (canon L).map keyOf = (kE.sort (uq (L.map keyOf))).filter fun k => decide (tot L k ≠ 0) := by
    unfold canon canonK
    rw [List.map_map]
    have : (keyOf ∘ mkC (tot L)) = id := by funext k; rfl
    rw [this, List.map_id]
  rw [e]
  exact (Srt.of (uq_nodup _)).filter _
end DL

namespace DL
open PySem L2
local macro_rules | `(tactic| walk_at "go") => `(tactic| repeat (first | refine wp_mb ?_ | with_reducible refine wp_mul (by first | assumption | (exact okMul_iff.mpr (by omega))) ?_ | with_reducible refine wp_mod (by first | assumption | (exact okMod_iff.mpr (by omega))) ?_ | with_reducible refine wp_div (by first | assumption | (exact okDiv_iff.mpr (by omega))) ?_ | with_reducible refine wp_pow (by first | assumption | (exact okPow_iff.mpr (by decide))) ?_ | ((with_reducible refine wp_set ?_ ?_ ?_); (focus rfl); (focus first | exact tT_lb | exact lb_int _ _ | exact lb_bl _ _ | exact lb_non _ | assumption)) | refine wp_eq rfl ?_))
local macro_rules | `(tactic| walk_at "st") => `(tactic| ((first | (refine wp_seqK ?_; intro K hK) | skip); walk_at "go"))
local macro_rules | `(tactic| walk_at "nx") => `(tactic| ((try dsimp only [List.set_cons_zero, List.set_cons_succ]); refine wp_nx (by assumption) ?_; walk_at "st"))
local macro_rules | `(tactic| walk_at "nk") => `(tactic| ((try dsimp only [List.set_cons_zero, List.set_cons_succ]); refine wp_nx (by assumption) ?_))
/-! W10 of k28: bags copied, bags compared by the law -/
theorem dputs_eq : ∀ {D A : List (List Int × Int)}, ((A ++ D).map (·.1)).Nodup → dputs (akP rE A) (avP PV.int A) (akP rE D) (avP PV.int D) = (akP rE (A ++ D), avP PV.int (A ++ D))
  | [], A, _ => by
    rw [List.append_nil]
    show dputs (akP rE A) (avP PV.int A) [] [] = _
    rw [dputs]
    intro _ _ _ _ z
    cases z
  | x :: D, A, h => by
    have hx : x.1 ∉ A.map (·.1) := fun hm => by
      rw [List.map_append, List.map_cons] at h
      exact (List.nodup_append.mp h).2.2 _ hm _ List.mem_cons_self rfl
    show dputs (akP rE A) (avP PV.int A) (rE.p x.1 :: akP rE D) (PV.int x.2 :: avP PV.int D) = _
    rw [dputs, dput_eq, aput_new hx]
    have e : (A ++ [(x.1, x.2)]) ++ D = A ++ x :: D := by rw [List.append_assoc]; rfl
    rw [dputs_eq (A := A ++ [(x.1, x.2)]) (by rw [e]; exact h), e]
def entP (x : List Int × Int) : PV := .tup [tT x.1, .int x.2]
theorem pairsOf_eq : ∀ D : List (List Int × Int), pairsOf (D.map entP) = some (akP rE D, avP PV.int D)
  | [] => rfl
  | x :: D => by
    show (pairsOf (D.map entP)).map (fun p => (tT x.1 :: p.1, PV.int x.2 :: p.2)) = _
    rw [pairsOf_eq D]
    rfl
def bagP (D : List (List Int × Int)) : PV := .dct (akP rE D) (avP .int D)
theorem bagP_lb {n : Nat} {D : List (List Int × Int)} : (bagP D).lb n = true := by
  unfold bagP
  rw [lb_dct, ak_lb, show lbs n (avP PV.int D) = true from lbs_map (f := fun x : List Int × Int => PV.int x.2) (fun x => lb_int n x.2) D]
  rfl
theorem bDict_eq {D : List (List Int × Int)} (nd : (D.map (·.1)).Nodup) (hz : D.length ≤ 1000) {st : Sto} : bDict false [.lst (D.map entP)] st = some (bagP D, st) := by
  show (match pairsOf (D.map entP) with
    | some (pks, pvs) => if pks.all isTK && okLen pks.length then mkD false (dputs [] [] pks pvs).1 (dputs [] [] pks pvs).2 st else none
    | none => none) = _
  rw [pairsOf_eq]
  have ht : (akP rE D).all isTK = true := List.all_eq_true.mpr fun x hx => by
    obtain ⟨y, _, rfl⟩ := List.mem_map.mp hx
    exact rE.isTK_eq y.1
  have hk : okLen (akP rE D).length = true := okLen_iff.mpr (by rw [ak_len]; exact Nat.le_trans hz (okL (by decide)))
  show (if (akP rE D).all isTK && okLen (akP rE D).length then mkD false (dputs [] [] (akP rE D) (avP PV.int D)).1 (dputs [] [] (akP rE D) (avP PV.int D)).2 st else none) = _
  rw [ht, hk, if_pos (show (true && true) = true from rfl)]
  have e := dputs_eq (D := D) (A := []) nd
  rw [show dputs [] [] (akP rE D) (avP PV.int D) = (akP rE D, avP PV.int D) from e]
  rfl
theorem plain_int_eq {d : Nat} {i : Int} {st : Sto} : r_law_plain (d + 1) [.int i] st = some (.bl true, st) := by
  refine runF_eq rfl (lb_bl _ _) ?_
  show wp (D_law_plain (r_law_plain d) [some (.int i), none] st) _
  unfold D_law_plain
  walk_at "go"
  refine wp_eq whole_int ?_
  walk_at "go"
  first | exact ⟨rfl, rfl⟩ | exact wp_ret ⟨rfl, rfl⟩
theorem plain_tup_eq {d : Nat} {a : List Int} (hz : a.length ≤ 1000) {st : Sto} : r_law_plain (d + 2) [tT a] st = some (.bl true, st) := by
  refine runF_eq rfl (lb_bl _ _) ?_
  show wp (D_law_plain (r_law_plain (d + 1)) [some (tT a), none] st) _
  unfold D_law_plain
  walk_at "go"
  refine wp_eq (lc_items (its := ⟨a.map .int, none⟩) ((a.map fun _ => true).map .bl) Its.ok_none (by rw [List.length_map, List.length_map]; exact (List.length_map _).symm) (fun j x hx => ?_)) ?_
  · obtain ⟨c, hc, _, rfl⟩ := get_map hx
    refine ⟨_, .bl true, rfl, by rw [List.map_map, List.getElem?_map, hc]; rfl, eq_of_wp ?_⟩
    walk_at "go"
    refine wp_eq plain_int_eq ?_
    walk_at "go"
    exact ⟨rfl, rfl⟩
  refine wp_eq (mkV_eq (okL (by rw [List.length_map, List.length_map]; omega))) ?_
  walk_at "go"
  refine wp_eq (cmpIn_bls (s := a.map fun _ => true) rfl) ?_
  rw [all_true_false]
  walk_at "go"
  exact ⟨rfl, rfl⟩
theorem same_bag {D : List (List Int × Int)} (nd : (D.map (·.1)).Nodup) (hz : D.length ≤ 1000) (hw : ∀ x ∈ D, x.1.length ≤ 1000) {st : Sto} : f_law_same 6 [bagP D, bagP D] st = some (.bl true, st) := by
  unfold f_law_same
  refine runF_eq rfl (lb_bl _ _) ?_
  show wp (D_law_same (r_law_same 5) [some (bagP D), some (bagP D), none, none] st) _
  unfold D_law_same
  refine wp_seqK ?_
  intro K hK
  walk_at "go"
  walk_at "nk"
  clear hK
  refine wp_seqK ?_
  intro K hK
  walk_at "go"
  walk_at "nk"
  clear hK
  refine wp_seqK ?_
  intro K hK
  walk_at "go"
  walk_at "nk"
  clear hK
  refine wp_seqK ?_
  intro K hK
  walk_at "go"
  walk_at "nk"
  clear hK
  refine wp_seqK ?_
  intro K hK
  refine wp_sIf (x := true) (s1 := st) rfl ?_
  rw [if_pos rfl]
  refine wp_seqK ?_
  intro K2 hK2
  walk_at "go"
  rw [eqv_int, beq_self_eq_true]
  walk_at "go"
  walk_at "nk"
  clear hK2
  refine wp_seqK ?_
  intro K2 hK2
  walk_at "go"
  refine for_all_wp (its := ⟨akP rE D, none⟩) Its.ok_none false (fun env => ∃ u2, env = [some (bagP D), some (bagP D), u2, none]) (fun _ => true) (fun k x env hx hI => ?_) ⟨_, rfl⟩ (fun h env hE => ?_) (fun h => ?_)
  · obtain ⟨u2, rfl⟩ := hI
    have hx : (D.map fun x => rE.p x.1)[k]? = some x := hx
    obtain ⟨y, hy, hm, rfl⟩ := get_map hx
    have hg := (tb_get (f := fun _ => 0) nd).mpr (show (y.1, y.2) ∈ D from hm)
    refine wp_eq (a := [some (bagP D), some (bagP D), some (tT y.1), none]) (s := st) rfl ?_
    have ein : cmpIn true (tT y.1) (bagP D) st = some (.bl false, st) := by
      show (if goodK (akP rE D) (rE.p y.1) then some (PV.bl ((dlook (akP rE D) (avP PV.int D) (rE.p y.1)).isSome != true), st) else none) = _
      rw [ak_good, if_pos rfl, dlook_eq, hg]
      rfl
    walk_at "go"
    refine wp_eq ein ?_
    walk_at "go"
    refine wp_eq (dctv_ix hg) ?_
    walk_at "go"
    refine wp_eq (dctv_ix hg) ?_
    walk_at "go"
    refine wp_eq (same_true 4 (v := .int y.2) rfl rfl (by rfl)) ?_
    walk_at "go"
    refine wp_eq (show f_law_plain 6 [tT y.1] st = some (.bl true, st) by unfold f_law_plain; exact plain_tup_eq (hw y hm)) ?_
    walk_at "go"
    exact ⟨rfl, _, rfl, _, rfl⟩
  · obtain ⟨u2, rfl⟩ := hE
    walk_at "nk"
    walk_at "go"
    first | exact ⟨rfl, rfl⟩ | exact wp_ret ⟨rfl, rfl⟩
  · rw [List.all_eq_true.mpr (fun _ _ => rfl)] at h
    cases h
end DL

namespace DL
open PySem L2
local macro_rules | `(tactic| walk_at "go") => `(tactic| repeat (first | refine wp_mb ?_ | with_reducible refine wp_mul (by first | assumption | (exact okMul_iff.mpr (by omega))) ?_ | with_reducible refine wp_mod (by first | assumption | (exact okMod_iff.mpr (by omega))) ?_ | with_reducible refine wp_div (by first | assumption | (exact okDiv_iff.mpr (by omega))) ?_ | with_reducible refine wp_pow (by first | assumption | (exact okPow_iff.mpr (by decide))) ?_ | ((with_reducible refine wp_set ?_ ?_ ?_); (focus rfl); (focus first | exact tT_lb | exact lb_int _ _ | exact lb_bl _ _ | exact lb_non _ | assumption)) | refine wp_eq rfl ?_))
local macro_rules | `(tactic| walk_at "st") => `(tactic| ((first | (refine wp_seqK ?_; intro K hK) | skip); walk_at "go"))
local macro_rules | `(tactic| walk_at "nx") => `(tactic| ((try dsimp only [List.set_cons_zero, List.set_cons_succ]); refine wp_nx (by assumption) ?_; walk_at "st"))
local macro_rules | `(tactic| walk_at "nk") => `(tactic| ((try dsimp only [List.set_cons_zero, List.set_cons_succ]); refine wp_nx (by assumption) ?_))
/-! W11 of k28: one row asked -/
theorem plain_ch {d : Nat} {x : Chg} (h1 : x.1.length ≤ 1000000) (h2 : x.2.1.length ≤ 1000000) : plainP (d + 2) (chP x) = true := by
  show (decide ([tT x.1, tT x.2.1, PV.int x.2.2].length ≤ 1000000) && [tT x.1, tT x.2.1, PV.int x.2.2].all (plainP (d + 1))) = true
  rw [decide_eq_true (show [tT x.1, tT x.2.1, PV.int x.2.2].length ≤ 1000000 by show 3 ≤ 1000000; decide)]
  show (true && (plainP (d + 1) (tT x.1) && (plainP (d + 1) (tT x.2.1) && (plainP (d + 1) (PV.int x.2.2) && true)))) = true
  rw [plain_tT h1, plain_tT h2]
  cases d <;> rfl
theorem plain_chs {L : List Chg} (hz : L.length ≤ 1000000) (h : ∀ x ∈ L, x.1.length ≤ 1000000 ∧ x.2.1.length ≤ 1000000) : plainP 5 (.lst (L.map chP)) = true := by
  show (decide ((L.map chP).length ≤ 1000000) && (L.map chP).all (plainP 4)) = true
  rw [List.length_map, decide_eq_true hz, List.all_map]
  rw [show L.all (plainP 4 ∘ chP) = true from List.all_eq_true.mpr (fun x hx => plain_ch (d := 2) (h x hx).1 (h x hx).2)]
  rfl
theorem more_lb {n : Nat} {L : List Chg} : (Cell.lst (L.map chP ++ [.tup [.str "more"]])).lb n = true := by
  show lbs n (L.map chP ++ [.tup [.str "more"]]) = true
  rw [lbs_append, chs_lb]
  rfl
def sdP (i : Int) : PV := .str (if i = 0 then "left" else "right")
theorem law_ask_wp {ln : PV} {i : Int} {D : List (List Int × Int)} {t : List Int} {Kp T : List Chg} {Mk : List (List Int)} {Tm : List (Sd × Nat)} {Pr : List (Nat × Nat)} {st : Sto} {Q : PV → Sto → Prop} (hl : LineOk ln Pr Tm) (hi : i = 0 ∨ i = 1) (nd : (D.map (·.1)).Nodup)
    (hD : D.length ≤ 1000) (hw : ∀ x ∈ D, x.1.length ≤ 1000) (hk : Kp.length ≤ 1000) (hK : ∀ x ∈ Kp, x.1.length ≤ 1000 ∧ x.2.1.length ≤ 1000) (hTz : Tm.length ≤ 1000) (hM : Mk.length ≤ 1000) (hT : T.length ≤ 1000000 - 1)
    (hS : Srt kE (T.map keyOf)) (hC : ∀ x ∈ T, x.1.length = Tm.length ∧ InMk Mk x.2.1 ∧ x.2.2 ≠ 0)
    (hJ : ∀ (st : Sto) (Q : PV → Sto → Prop), Q (.loc st.nxt) (st.alloc (.lst (T.map chP))) → wp (f_join_step [ln, sdP i, .lst (Kp.map chP), bagP D, tT t] st) Q)
    (q : Q (.lst (T.map chP)) st) :
    wp (f_law_ask [ln, .tup [.int i, bagP D, tT t], .lst (Kp.map chP), mksP Mk] st) Q := by
  unfold f_law_ask
  refine wp_runF rfl ?_
  show wp (D_law_ask [some ln, some (.tup [.int i, bagP D, tT t]), some (.lst (Kp.map chP)), some (mksP Mk), none, none, none, none, none, none] st) _
  unfold D_law_ask
  refine wp_seqK ?_
  intro K hK1
  walk_at "go"
  have e1 : opIx (.lst [.str "left", .str "right"]) (.int i) st = some (sdP i, st) := by
    rcases hi with rfl | rfl <;> rfl
  refine wp_eq e1 ?_
  walk_at "go"
  walk_at "nk"
  clear hK1
  refine wp_seqK ?_
  intro K hK1
  walk_at "go"
  refine wp_eq (bList_v rfl (by rw [List.length_map]; omega)) ?_
  walk_at "go"
  walk_at "nk"
  clear hK1
  refine wp_seqK ?_
  intro K hK1
  walk_at "go"
  refine wp_eq (lc_items (its := ⟨akP rE D, none⟩) (D.map entP) Its.ok_none (by rw [List.length_map]; exact (ak_len _ _).symm) (fun k x hx => ?_)) ?_
  · have hx : (D.map fun x => rE.p x.1)[k]? = some x := hx
    obtain ⟨y, hy, hm, rfl⟩ := get_map hx
    have hg := (tb_get (f := fun _ => 0) nd).mpr (show (y.1, y.2) ∈ D from hm)
    refine ⟨_, entP y, rfl, by rw [List.getElem?_map, hy]; rfl, eq_of_wp ?_⟩
    walk_at "go"
    refine wp_eq (dctv_ix hg) ?_
    walk_at "go"
    first | exact ⟨rfl, rfl⟩ | exact wp_ret ⟨rfl, rfl⟩
  refine wp_eq (mkV_eq (okL (by rw [List.length_map]; omega))) ?_
  walk_at "go"
  refine wp_eq (bDict_eq nd hD) ?_
  walk_at "go"
  walk_at "nk"
  clear hK1
  refine wp_seqK ?_
  intro K hK1
  walk_at "go"
  refine hJ _ _ ?_
  rw [if_pos rfl]
  walk_at "go"
  walk_at "nk"
  clear hK1
  have at1 : (st.alloc (.lst (T.map chP))).cs st.nxt = some (.lst (T.map chP)) := Sto.alloc_get chs_lbC
  have lo1 : lstOf (st.alloc (.lst (T.map chP))) (.loc st.nxt) = some (T.map chP) := by
    show (match (st.alloc (.lst (T.map chP))).cs st.nxt with | some (.lst xs) => some xs | _ => none) = _
    rw [at1]
  refine wp_seqK ?_
  intro K hK1
  walk_at "go"
  have e5 := hl.i5 (st.alloc (.lst (T.map chP)))
  refine wp_eq e5 ?_
  walk_at "go"
  rw [List.length_map]
  refine wp_eq (law_tidied_eq lo1 (by omega) hTz hM hS hC) ?_
  walk_at "go"
  walk_at "nk"
  clear hK1
  refine wp_seqK ?_
  intro K hK1
  walk_at "go"
  refine wp_eq (bList_v (seq_of_lst lo1) (by rw [List.length_map]; omega)) ?_
  walk_at "go"
  walk_at "nk"
  clear hK1
  refine wp_seqK ?_
  intro K hK1
  walk_at "go"
  refine wp_eq (loc_asL at1) ?_
  walk_at "go"
  refine wp_eq (loc_append at1 (by rw [List.length_map, sizeLine_eq]; omega) rfl) ?_
  walk_at "go"
  walk_at "nk"
  clear hK1
  refine wp_seqK ?_
  intro K hK1
  walk_at "go"
  rw [Sto.alloc_set chs_lbC more_lb]
  refine wp_eq (same_ok (v := .lst (Kp.map chP)) rfl rfl (plain_chs (by omega) fun x hx => ⟨by have := (hK x hx).1; omega, by have := (hK x hx).2; omega⟩)) ?_
  walk_at "go"
  refine wp_eq (same_bag nd hD hw) ?_
  walk_at "go"
  walk_at "nk"
  clear hK1
  refine wp_seqK ?_
  intro K hK1
  walk_at "go"
  refine hJ _ _ ?_
  rw [if_neg (by decide)]
  refine wp_eq (settle_new chs_lb) ?_
  walk_at "go"
  refine wp_eq (same_ok (v := .lst (T.map chP)) rfl rfl (plain_chs (by omega) fun x hx => ⟨by have := (hC x hx).1; omega, by have := (hC x hx).2.1.1; omega⟩)) ?_
  walk_at "go"
  walk_at "nk"
  walk_at "go"
  refine wp_eq (fin_val chs_lbV) ?_
  rw [Sto.restr_alloc (Nat.le_refl _), Sto.restr_self]
  exact q
end DL

namespace DL
open PySem L2
local macro_rules | `(tactic| walk_at "go") => `(tactic| repeat (first | refine wp_mb ?_ | with_reducible refine wp_mul (by first | assumption | (exact okMul_iff.mpr (by omega))) ?_ | with_reducible refine wp_mod (by first | assumption | (exact okMod_iff.mpr (by omega))) ?_ | with_reducible refine wp_div (by first | assumption | (exact okDiv_iff.mpr (by omega))) ?_ | with_reducible refine wp_pow (by first | assumption | (exact okPow_iff.mpr (by decide))) ?_ | ((with_reducible refine wp_set ?_ ?_ ?_); (focus rfl); (focus first | exact tT_lb | exact lb_int _ _ | exact lb_bl _ _ | exact lb_non _ | assumption)) | refine wp_eq rfl ?_))
local macro_rules | `(tactic| walk_at "st") => `(tactic| ((first | (refine wp_seqK ?_; intro K hK) | skip); walk_at "go"))
local macro_rules | `(tactic| walk_at "nx") => `(tactic| ((try dsimp only [List.set_cons_zero, List.set_cons_succ]); refine wp_nx (by assumption) ?_; walk_at "st"))
local macro_rules | `(tactic| walk_at "nk") => `(tactic| ((try dsimp only [List.set_cons_zero, List.set_cons_succ]); refine wp_nx (by assumption) ?_))
/-! Dx: the pool, and places made since -/
def Drx (p : Nat) (st s : Sto) : Prop := st.nxt ≤ s.nxt ∧ Dr p st (s.restr st.nxt)
theorem Drx.refl {p : Nat} {st : Sto} (h : Pool p st) : Drx p st st := ⟨Nat.le_refl _, by rw [Sto.restr_self]; exact .refl h⟩
theorem Drx.alloc {p : Nat} {st s : Sto} {c : Cell} (h : Drx p st s) : Drx p st (s.alloc c) := ⟨by rw [Sto.alloc_nxt]; exact Nat.le_succ_of_le h.1, by rw [Sto.restr_alloc h.1]; exact h.2⟩
theorem Drx.set {p l : Nat} {st s : Sto} {c : Cell} (h : Drx p st s) (hl : st.nxt ≤ l) : Drx p st (s.set l c) := ⟨h.1, by rw [Sto.restr_set_ge hl]; exact h.2⟩
theorem Drx.dr {p : Nat} {st s s' : Sto} (h : Drx p st s) (hP : Pool p s) (hp : p < st.nxt) (d : Dr p s s') : Drx p st s' := by
  obtain ⟨P0, h0, _⟩ := hP
  obtain ⟨P, rfl, h2⟩ := d
  refine ⟨h.1, ?_⟩
  rw [Sto.restr_set_lt hp h.1 h0 ints_lb ints_lb]
  exact h.2.trans ⟨P, rfl, h2⟩
structure PL (p l : Nat) (st s : Sto) (c : Cell) : Prop where
  pool : Pool p s
  drx : Drx p st s
  at' : s.cs l = some c
  hl : st.nxt ≤ l
  hp : p < st.nxt
namespace PL
variable {p l : Nat} {st s s' : Sto} {c c' : Cell}
theorem new (h : Pool p st) (hc : c.lb st.nxt = true) : PL p st.nxt st (st.alloc c) c := ⟨h.alloc, (Drx.refl h).alloc, Sto.alloc_get hc, Nat.le_refl _, h.lt⟩
theorem ne (h : PL p l st s c) : l ≠ p := by have := h.hl; have := h.hp; omega
theorem dr (h : PL p l st s c) (d : Dr p s s') : PL p l st s' c := ⟨h.pool.dr d, h.drx.dr h.pool h.hp d, by rw [d.get h.ne]; exact h.at', h.hl, h.hp⟩
theorem put (h : PL p l st s c) (hc : c'.lb s.nxt = true) : PL p l st (s.set l c') c' := ⟨h.pool.set h.ne, h.drx.set h.hl, Sto.set_get h.at' hc, h.hl, h.hp⟩
theorem other {l2 : Nat} {c2 : Cell} (h : PL p l st s c) (h2 : st.nxt ≤ l2) (hne : l ≠ l2) : PL p l st (s.set l2 c2) c := ⟨h.pool.set (by have := h.hp; omega), h.drx.set h2, by rw [Sto.set_ne hne]; exact h.at', h.hl, h.hp⟩
theorem alloc {c2 : Cell} (h : PL p l st s c) : PL p l st (s.alloc c2) c := ⟨h.pool.alloc, h.drx.alloc, by rw [Sto.alloc_ne (by have := Sto.lt_of h.at'; omega)]; exact h.at', h.hl, h.hp⟩
theorem fin (h : PL p l st s c) (hc : c.lb st.nxt = true) : DL.fin st.nxt (.loc l) s = some (.loc (s.restr st.nxt).nxt, (s.restr st.nxt).alloc c) := fin_loc h.hl h.at' hc
end PL
theorem settle_dr {p : Nat} {st st' : Sto} (d : Dr p st st') {xs : List PV} (h : lbs st'.nxt xs = true) : settle st.nxt (.loc st'.nxt) (st'.alloc (.lst xs)) = some (.lst xs, st') := by
  rw [← d.nxt]
  exact settle_new h
/-! W12 of k28: counts, records, spots -/
theorem pow_step {c r : Int} {k : Nat} (h0 : 0 ≤ c) (h : c < (1000 : Int) ^ k) (r0 : 0 ≤ r) (r1 : r < 1000) : 0 ≤ c * 1000 + r ∧ c * 1000 + r < (1000 : Int) ^ (k + 1) := by
  rw [Int.pow_succ]
  omega
theorem kcount_wp {p : Nat} {st : Sto} {Q : PV → Sto → Prop} (h : Pool p st) (q : ∀ c st', c.natAbs < 2 ^ 130 → Dr p st st' → Q (.int c) st') : wp (f_law_count [.loc p] st) Q := by
  unfold f_law_count
  refine wp_runF rfl ?_
  show wp (D_law_count [some (.loc p), none, none] st) _
  unfold D_law_count
  refine wp_seqK ?_
  intro K hK
  walk_at "go"
  refine pick_wp h (xs := [.int 1, .int 2, .int 1, .int 0, .int 1, .int 3, .int 1, .int 5, .int 2, .int 7]) (fun _ _ => rfl) (by decide) (by intro x hx; simp only [List.mem_cons, List.not_mem_nil, or_false] at hx; rcases hx with rfl | rfl | rfl | rfl | rfl | rfl | rfl | rfl | rfl | rfl <;> exact lb_int _ _) fun x s1 hx d1 => ?_
  obtain ⟨c, rfl, c0, c7⟩ : ∃ c : Int, x = .int c ∧ 0 ≤ c ∧ c ≤ 7 := by
    simp only [List.mem_cons, List.not_mem_nil, or_false] at hx
    rcases hx with rfl | rfl | rfl | rfl | rfl | rfl | rfl | rfl | rfl | rfl <;> exact ⟨_, rfl, by decide, by decide⟩
  refine wp_set (by rw [d1.nxt]) (lb_int _ _) ?_
  walk_at "go"
  walk_at "nk"
  clear hK
  refine wp_seqK ?_
  intro K hK
  refine wp_mono (R := fun f s => ∃ (c : Int) (u2 : Option PV), f = .nx [some (.loc p), some (.int c), u2] ∧ c.natAbs < 2 ^ 130 ∧ Dr p st s) ?_ fun f s2 hR => ?_
  · walk_at "go"
    rw [eqv_int]
    refine wp_if (fun hr => ?_) (fun hr => ?_)
    · obtain rfl : c = 0 := by simpa using hr
      refine wp_seqK ?_
      intro K2 hK2
      walk_at "go"
      refine draw_wp (h.dr d1) (by decide) fun r s2 r0 r1 d2 => ?_
      refine wp_set (by rw [d2.nxt]) (lb_int _ _) ?_
      obtain ⟨m, rfl⟩ := Int.eq_ofNat_of_zero_le r0
      walk_at "go"
      rw [show (1 : Int) + (m : Int) = ((1 + m : Nat) : Int) by omega]
      refine wp_pos (okR (by omega)) ?_
      walk_at "go"
      refine forGo_wp (its := ⟨rng 0 ((1 + m : Nat) : Int), none⟩) (fun k env s => ∃ (c : Int) (u2 : Option PV), env = [some (.loc p), some (.int c), u2] ∧ 0 ≤ c ∧ c < (1000 : Int) ^ k ∧ Dr p st s) _ (fun k x env s hx hI => ?_) (fun env s hI => ?_) ⟨0, none, rfl, by decide, by decide, d1.trans d2⟩
      · obtain ⟨c, u2, rfl, g0, g1, d⟩ := hI
        obtain ⟨hk, rfl⟩ := rng_at hx
        have hb : (1000 : Int) ^ k ≤ 1000 ^ 12 := by
          have : (1000 : Nat) ^ k ≤ 1000 ^ 12 := Nat.pow_le_pow_right (by decide) (by omega)
          exact_mod_cast this
        have hb2 : (1000 : Int) ^ 12 = 1000000000000000000000000000000000000 := by decide
        refine ⟨Its.ok_none, wp_eq rfl ?_⟩
        walk_at "go"
        refine draw_wp (h.dr d) (by decide) fun r s3 r0 r1 d3 => ?_
        refine wp_set (by rw [d3.nxt]) (lb_int _ _) ?_
        walk_at "go"
        exact ⟨_, _, rfl, (pow_step g0 g1 r0 r1).1, (pow_step g0 g1 r0 r1).2, d.trans d3⟩
      · obtain ⟨c, u2, rfl, g0, g1, d⟩ := hI
        have hb : (1000 : Int) ^ (rng 0 ((1 + m : Nat) : Int)).length ≤ 1000 ^ 12 := by
          rw [rng_len]
          have : (1000 : Nat) ^ (1 + m) ≤ 1000 ^ 12 := Nat.pow_le_pow_right (by decide) (by omega)
          exact_mod_cast this
        have hb2 : (1000 : Int) ^ 12 = 1000000000000000000000000000000000000 := by decide
        refine ⟨Its.ok_none, ?_⟩
        walk_at "nk"
        walk_at "go"
        have g2 : c < (1000 : Int) ^ (rng 0 ((1 + m : Nat) : Int)).length := g1
        exact ⟨_, _, rfl, by omega, d⟩
    · walk_at "go"
      exact ⟨c, _, rfl, by omega, d1⟩
  · obtain ⟨c, u2, rfl, hc, d⟩ := hR
    walk_at "nk"
    walk_at "go"
    refine pick_wp (h.dr d) (xs := [.int 1, .int (-1), .int 1]) (fun _ _ => rfl) (by decide) (by intro x hx; simp only [List.mem_cons, List.not_mem_nil, or_false] at hx; rcases hx with rfl | rfl | rfl <;> exact lb_int _ _) fun x s3 hx d3 => ?_
    obtain ⟨e, rfl, he⟩ : ∃ e : Int, x = .int e ∧ (e = 1 ∨ e = -1) := by
      simp only [List.mem_cons, List.not_mem_nil, or_false] at hx
      rcases hx with rfl | rfl | rfl <;> exact ⟨_, rfl, by decide⟩
    refine wp_set (by rw [d3.nxt]) (lb_int _ _) ?_
    walk_at "go"
    have dd := d.trans d3
    rw [dd.restr]
    exact q _ _ (by rcases he with rfl | rfl <;> omega) dd
/-- the spots: every time of the marks, in the order of the law -/
def spotsOf (Mk : List (List Int)) : List (List Int) := Mk.foldl (fun S m => S.flatMap fun s => m.map fun x => s ++ [x]) [[]]
theorem spotsOf_ok {Mk : List (List Int)} : ∀ t ∈ spotsOf Mk, InMk Mk t := by
  have key : ∀ (l : List (List Int)) (S : List (List Int)) (Mk0 : List (List Int)), (∀ t ∈ S, InMk Mk0 t) → ∀ t ∈ l.foldl (fun S m => S.flatMap fun s => m.map fun x => s ++ [x]) S, InMk (Mk0 ++ l) t := by
    intro l
    induction l with
    | nil => intro S Mk0 h t ht; rw [List.append_nil]; exact h t ht
    | cons m l ih =>
      intro S Mk0 h t ht
      rw [List.foldl_cons] at ht
      have := ih _ (Mk0 ++ [m]) (fun t ht => ?_) t ht
      · rwa [List.append_assoc] at this
      · obtain ⟨s, hs, ht⟩ := List.mem_flatMap.mp ht
        obtain ⟨x, hx, rfl⟩ := List.mem_map.mp ht
        obtain ⟨h1, h2⟩ := h s hs
        refine ⟨by rw [List.length_append, List.length_append, h1]; rfl, fun c hc => ?_⟩
        by_cases e : c < Mk0.length
        · have a1 : (s ++ [x]).getD c 0 = s.getD c 0 := by
            rw [List.getD_eq_getElem?_getD, List.getElem?_append_left (by omega), ← List.getD_eq_getElem?_getD]
          have a2 : (Mk0 ++ [m]).getD c [] = Mk0.getD c [] := by
            rw [List.getD_eq_getElem?_getD, List.getElem?_append_left e, ← List.getD_eq_getElem?_getD]
          rw [a1, a2]
          exact h2 c e
        · have e2 : c = Mk0.length := by rw [List.length_append] at hc; have : [m].length = 1 := rfl; omega
          subst e2
          have a1 : (s ++ [x]).getD Mk0.length 0 = x := by
            rw [List.getD_eq_getElem?_getD, List.getElem?_append_right (by omega), h1, Nat.sub_self]; rfl
          have a2 : (Mk0 ++ [m]).getD Mk0.length [] = m := by
            rw [List.getD_eq_getElem?_getD, List.getElem?_append_right (by omega), Nat.sub_self]; rfl
          rw [a1, a2]
          exact hx
  have := key Mk [[]] [] (fun t ht => by rw [List.mem_singleton] at ht; subst ht; exact ⟨rfl, fun c hc => by cases hc⟩)
  rw [List.nil_append] at this
  exact this
def rowsL (S : List (List Int)) : PV := .lst (S.map tT)
theorem rows_lbC {n : Nat} {S : List (List Int)} : (Cell.lst (S.map tT)).lb n = true := lbs_map (fun _ => tT_lb) S
theorem krecords_wp {p w : Nat} {V : List Int} {st : Sto} {Q : PV → Sto → Prop} (h : Pool p st) (hV : V ≠ []) (hw : w ≤ 1000) (q : ∀ (R : List (List Int)) st', R ≠ [] → R.length ≤ 4 → (∀ r ∈ R, r.length = w) → Dr p st st' → Q (.loc st'.nxt) (st'.alloc (.lst (R.map tT)))) : wp (f_law_records [.loc p, .lst (V.map .int), .int (w : Int)] st) Q := by
  unfold f_law_records
  refine wp_runF rfl ?_
  show wp (D_law_records [some (.loc p), some (.lst (V.map .int)), some (.int (w : Int)), none, none, none] st) _
  unfold D_law_records
  refine wp_seqK ?_
  intro K hK
  walk_at "go"
  walk_at "nk"
  clear hK
  have F0 : PL p st.nxt st (st.alloc (.lst [])) (.lst []) := .new h rfl
  refine wp_seqK ?_
  intro K hK
  walk_at "go"
  refine draw_wp F0.pool (by decide) fun r s1 r0 r1 d1 => ?_
  refine wp_set (by rw [d1.nxt]) (lb_int _ _) ?_
  replace F0 := F0.dr d1
  clear d1
  obtain ⟨m, rfl⟩ := Int.eq_ofNat_of_zero_le r0
  walk_at "go"
  rw [show (1 : Int) + (m : Int) = ((1 + m : Nat) : Int) by omega]
  refine wp_pos (okR (by omega)) ?_
  walk_at "go"
  refine forGo_wp (its := ⟨rng 0 ((1 + m : Nat) : Int), none⟩) (fun k env s => ∃ (R : List (List Int)) (u4 : Option PV), env = [some (.loc p), some (.lst (V.map .int)), some (.int (w : Int)), some (.loc st.nxt), u4, none] ∧ R.length = k ∧ (∀ r ∈ R, r.length = w) ∧ PL p st.nxt st s (.lst (R.map tT))) _ (fun k x env s hx hI => ?_) (fun env s hI => ?_) ⟨[], none, rfl, rfl, fun r z => (by cases z), F0⟩
  · clear F0
    obtain ⟨R, u4, rfl, rfl, hR, F⟩ := hI
    obtain ⟨hk, rfl⟩ := rng_at hx
    refine ⟨Its.ok_none, wp_eq rfl ?_⟩
    walk_at "go"
    refine wp_eq (loc_asL F.at') ?_
    walk_at "go"
    refine wp_pos (okR (by omega)) ?_
    walk_at "go"
    refine lcGo_wp (its := ⟨rng 0 (w : Int), none⟩) (fun k done s' => Dr p s s' ∧ ∃ a : List Int, done = a.map .int ∧ a.length = k) _ (fun k x done s' hx hI => ?_) (fun done s' hI => ?_) ⟨.refl F.pool, [], rfl, rfl⟩
    · obtain ⟨d, a, rfl, rfl⟩ := hI
      obtain ⟨hk, rfl⟩ := rng_at hx
      refine ⟨Its.ok_none, wp_eq rfl (wp_eq rfl ?_)⟩
      rw [if_pos rfl]
      walk_at "go"
      refine pick_wp (F.pool.dr d) (xs := V.map .int) (fun _ _ => rfl) (by rw [List.length_map]; exact List.length_pos_iff.mpr hV) (by intro x hx; obtain ⟨y, _, rfl⟩ := List.mem_map.mp hx; exact lb_int _ _) fun x s3 hx d3 => ?_
      obtain ⟨y, _, rfl⟩ := List.mem_map.mp hx
      refine wp_set (by rw [d3.nxt]) (lb_int _ _) ?_
      exact ⟨d.trans d3, a ++ [y], by rw [List.map_append]; rfl, by rw [List.length_append]; rfl⟩
    · obtain ⟨d, a, rfl, ha⟩ := hI
      have ha : a.length = w := by rw [ha]; exact rng_len
      replace F := F.dr d
      refine ⟨Its.ok_none, ?_⟩
      refine wp_eq (mkV_eq (okL (by rw [List.length_map]; omega))) ?_
      walk_at "go"
      refine wp_eq (a := tT a) (s := s') (mkT_eq (okL (by rw [List.length_map]; omega))) ?_
      walk_at "go"
      refine wp_eq (loc_append F.at' (by rw [List.length_map, sizeLine_eq]; omega) tT_lb) ?_
      walk_at "go"
      refine ⟨R ++ [a], _, rfl, by rw [List.length_append]; rfl, fun r hr => ?_, ?_⟩
      · rcases List.mem_append.mp hr with hr | hr
        · exact hR r hr
        · rw [List.mem_singleton] at hr; subst hr; exact ha
      · have e : R.map tT ++ [tT a] = (R ++ [a]).map tT := by rw [List.map_append]; rfl
        rw [e]
        exact F.put rows_lbC
  · obtain ⟨R, u4, rfl, hl, hR, F⟩ := hI
    have hl : R.length = 1 + m := by rw [hl]; exact rng_len
    refine ⟨Its.ok_none, ?_⟩
    walk_at "nk"
    walk_at "go"
    refine wp_eq (F.fin rows_lbC) ?_
    exact q R _ (fun z => by rw [z, List.length_nil] at hl; omega) (by omega) hR F.drx.2
end DL

namespace DL
open PySem L2
local macro_rules | `(tactic| walk_at "go") => `(tactic| repeat (first | refine wp_mb ?_ | with_reducible refine wp_mul (by first | assumption | (exact okMul_iff.mpr (by omega))) ?_ | with_reducible refine wp_mod (by first | assumption | (exact okMod_iff.mpr (by omega))) ?_ | with_reducible refine wp_div (by first | assumption | (exact okDiv_iff.mpr (by omega))) ?_ | with_reducible refine wp_pow (by first | assumption | (exact okPow_iff.mpr (by decide))) ?_ | ((with_reducible refine wp_set ?_ ?_ ?_); (focus rfl); (focus first | exact tT_lb | exact lb_int _ _ | exact lb_bl _ _ | exact lb_non _ | assumption)) | refine wp_eq rfl ?_))
local macro_rules | `(tactic| walk_at "st") => `(tactic| ((first | (refine wp_seqK ?_; intro K hK) | skip); walk_at "go"))
local macro_rules | `(tactic| walk_at "nx") => `(tactic| ((try dsimp only [List.set_cons_zero, List.set_cons_succ]); refine wp_nx (by assumption) ?_; walk_at "st"))
local macro_rules | `(tactic| walk_at "nk") => `(tactic| ((try dsimp only [List.set_cons_zero, List.set_cons_succ]); refine wp_nx (by assumption) ?_))
/-! W13 of k28: spots, listed -/
theorem ext_eq {l : Nat} {s : Sto} {xs zs : List PV} {y : PV} (h : s.cs l = some (.lst xs)) (hy : lstOf s y = some zs) (hz : xs.length + zs.length ≤ 1000000) (hb : lbs s.nxt zs = true) : mExtend l [y] s = some (.non, s.set l (.lst (xs ++ zs))) := by
  show (match s.cs l with | some (.lst xs) => (match lstOf s y with | some zs => (if decide (xs.length + zs.length ≤ sizeLine) && lbs s.nxt zs then some (PV.non, s.set l (.lst (xs ++ zs))) else none) | none => none) | _ => none) = _
  rw [h]
  show (match lstOf s y with | some zs => (if decide (xs.length + zs.length ≤ sizeLine) && lbs s.nxt zs then some (PV.non, s.set l (.lst (xs ++ zs))) else none) | none => none) = _
  rw [hy]
  show (if decide (xs.length + zs.length ≤ sizeLine) && lbs s.nxt zs then some (PV.non, s.set l (.lst (xs ++ zs))) else none) = _
  rw [decide_eq_true (okL hz), hb]; rfl
theorem spots_snoc {Mk : List (List Int)} {k : Nat} {m : List Int} (h : Mk[k]? = some m) : spotsOf (Mk.take (k + 1)) = (spotsOf (Mk.take k)).flatMap fun s => m.map fun x => s ++ [x] := by
  unfold spotsOf
  rw [take_step h, List.foldl_append]
  rfl
theorem spots_len {w : Nat} : ∀ {Mk : List (List Int)}, (∀ m ∈ Mk, m.length ≤ w) → (spotsOf Mk).length ≤ w ^ Mk.length := by
  have key : ∀ (l : List (List Int)) (S : List (List Int)), (∀ m ∈ l, m.length ≤ w) → (l.foldl (fun S m => S.flatMap fun s => m.map fun x => s ++ [x]) S).length ≤ S.length * w ^ l.length := by
    intro l
    induction l with
    | nil => intro S _; rw [List.length_nil, Nat.pow_zero, Nat.mul_one]; exact Nat.le_refl _
    | cons m l ih =>
      intro S h
      rw [List.foldl_cons]
      refine Nat.le_trans (ih _ fun x hx => h x (List.mem_cons_of_mem _ hx)) ?_
      have hm := h m List.mem_cons_self
      have : (S.flatMap fun s => m.map fun x => s ++ [x]).length ≤ S.length * w := by
        clear ih
        induction S with
        | nil => exact Nat.zero_le _
        | cons s S ih2 =>
          rw [List.flatMap_cons, List.length_append, List.length_map, List.length_cons, Nat.succ_mul]
          omega
      rw [List.length_cons, Nat.pow_succ]
      calc _ ≤ (S.length * w) * w ^ l.length := Nat.mul_le_mul_right _ this
        _ = S.length * (w ^ l.length * w) := by rw [Nat.mul_assoc, Nat.mul_comm w]
  intro Mk h
  have := key Mk [[]] h
  rw [show ([[]] : List (List Int)).length = 1 from rfl, Nat.one_mul] at this
  exact this
theorem fm_len {m : List Int} : ∀ S : List (List Int), (S.flatMap fun t => m.map fun x => t ++ [x]).length = S.length * m.length
  | [] => by rw [List.length_nil, Nat.zero_mul]; rfl
  | t :: S => by rw [List.flatMap_cons, List.length_append, fm_len S, List.length_map, List.length_cons, Nat.succ_mul]; omega
theorem kspots_wp {Mk : List (List Int)} {st : Sto} {Q : PV → Sto → Prop} (h0 : Mk ≠ []) (h4 : Mk.length ≤ 4) (h9 : ∀ m ∈ Mk, m.length ≤ 9) (q : Q (.loc st.nxt) (st.alloc (.lst ((spotsOf Mk).map tT)))) : wp (f_law_spots [mksP Mk] st) Q := by
  have hlen : ∀ k, k ≤ Mk.length → (spotsOf (Mk.take k)).length ≤ 6561 := fun k hk => by
    refine Nat.le_trans (spots_len (w := 9) fun m hm => h9 m (List.mem_of_mem_take hm)) ?_
    have : (Mk.take k).length ≤ 4 := by rw [List.length_take]; omega
    exact Nat.le_trans (Nat.pow_le_pow_right (by decide) this) (by decide)
  have hin : ∀ k, ∀ t ∈ spotsOf (Mk.take k), t.length ≤ 4 := fun k t ht => by
    rw [(spotsOf_ok t ht).1, List.length_take]; omega
  unfold f_law_spots
  refine wp_runF rfl ?_
  show wp (D_law_spots [some (mksP Mk), none, none, none, none, none] st) _
  unfold D_law_spots
  refine wp_seqK ?_
  intro K hK
  walk_at "go"
  walk_at "nk"
  clear hK
  refine wp_seqK ?_
  intro K hK
  walk_at "go"
  refine forGo_wp (its := ⟨Mk.map fun m => .lst (m.map .int), none⟩) (fun k env s => ∃ (v : PV) (u2 u3 u4 : Option PV), env = [some (mksP Mk), some v, u2, u3, u4, none] ∧ Ab st s ∧ lstOf s v = some ((spotsOf (Mk.take k)).map tT) ∧ (k = 0 ∨ ∃ l, v = .loc l ∧ st.nxt ≤ l)) _ (fun k x env s hx hI => ?_) (fun env s hI => ?_) ⟨.lst [.tup []], _, _, _, rfl, Ab.refl, rfl, .inl rfl⟩
  · obtain ⟨v, u2, u3, u4, rfl, B, hv, _⟩ := hI
    obtain ⟨m, hm, hmm, rfl⟩ := get_map hx
    have hk := (List.getElem?_eq_some_iff.mp hm).1
    refine ⟨Its.ok_none, wp_eq rfl ?_⟩
    refine wp_seqK ?_
    intro K2 hK2
    walk_at "go"
    walk_at "nk"
    clear hK2
    have hv1 := lst_up (c := .lst []) hv
    obtain ⟨src, j1, j2⟩ := itsOf_lst hv1
    have at0 : (s.alloc (.lst [])).cs s.nxt = some (.lst []) := Sto.alloc_get rfl
    refine wp_seqK ?_
    intro K2 hK2
    walk_at "go"
    refine wp_eq j1 ?_
    walk_at "go"
    have hok : ∀ s', Ab s s' → (Its.mk ((spotsOf (Mk.take k)).map tT) src).ok s' := fun s' h => j2 s' fun l e => by
      subst e
      have hl : ∃ c, s.cs l = some c := by
        cases ec : s.cs l with
        | none => rw [show lstOf s (.loc l) = (match s.cs l with | some (.lst xs) => some xs | _ => none) from rfl, ec] at hv; cases hv
        | some c => exact ⟨c, rfl⟩
      obtain ⟨c, hc⟩ := hl
      rw [h.get hc, Ab.refl.alloc.get hc]
    have hS := hlen k (by omega)
    have hS1 := hlen (k + 1) (by omega)
    rw [spots_snoc hm] at hS1
    refine forGo_wp (its := ⟨(spotsOf (Mk.take k)).map tT, src⟩) (fun j env s' => ∃ (u4 : Option PV), env = [some (mksP Mk), some v, some (.lst (m.map .int)), some (.loc s.nxt), u4, none] ∧ Ab s s' ∧ Ab st s' ∧ s'.cs s.nxt = some (.lst ((((spotsOf (Mk.take k)).take j).flatMap fun t => m.map fun x => t ++ [x]).map tT))) _ (fun j y env s' hy hI => ?_) (fun env s' hI => ?_) ⟨_, rfl, Ab.refl.alloc, B.alloc, at0⟩
    · obtain ⟨u4, rfl, B', B2, c'⟩ := hI
      obtain ⟨t, ht, htm, rfl⟩ := get_map hy
      refine ⟨hok s' B', wp_eq rfl ?_⟩
      walk_at "go"
      refine wp_eq (loc_asL c') ?_
      walk_at "go"
      refine wp_eq (lc_items (its := ⟨m.map .int, none⟩) ((m.map fun x => t ++ [x]).map tT) Its.ok_none (by rw [List.length_map, List.length_map]; exact (List.length_map _).symm) (fun i x hx => ?_)) ?_
      · obtain ⟨z, hz, _, rfl⟩ := get_map hx
        refine ⟨_, tT (t ++ [z]), rfl, by rw [List.map_map, List.getElem?_map, hz]; rfl, eq_of_wp ?_⟩
        walk_at "go"
        exact wp_eq (add_tT (b := [z]) (by have := hin k t htm; show t.length + 1 ≤ 1000000; omega)) ⟨rfl, rfl⟩
      have hm9 := h9 m hmm
      refine wp_eq (mkV_eq (okL (by rw [List.length_map, List.length_map]; omega))) ?_
      walk_at "go"
      refine wp_eq (ext_eq c' rfl (by rw [List.length_map, List.length_map, List.length_map, fm_len, List.length_take]; have : min j (spotsOf (Mk.take k)).length * m.length ≤ 6561 * 9 := Nat.mul_le_mul (by omega) hm9; omega) rows_lbC) ?_
      walk_at "go"
      refine ⟨_, rfl, B'.set (Nat.le_refl _), B2.set B.1, ?_⟩
      rw [take_step ht, List.flatMap_append, List.map_append]
      have e : ([t].flatMap fun t => m.map fun x => t ++ [x]) = m.map fun x => t ++ [x] := by rw [List.flatMap_cons, List.flatMap_nil, List.append_nil]
      rw [e]
      exact Sto.set_get c' (by rw [← List.map_append]; exact rows_lbC)
    · obtain ⟨u4, rfl, B', B2, c'⟩ := hI
      refine ⟨hok s' B', ?_⟩
      walk_at "nk"
      walk_at "go"
      refine ⟨_, _, _, _, rfl, B2, ?_, .inr ⟨_, rfl, B.1⟩⟩
      show (match s'.cs s.nxt with | some (.lst xs) => some xs | _ => none) = _
      rw [c', List.length_map, List.take_length, ← spots_snoc hm]
  · obtain ⟨v, u2, u3, u4, rfl, B, hv, hh⟩ := hI
    refine ⟨Its.ok_none, ?_⟩
    walk_at "nk"
    walk_at "go"
    rcases hh with hh | ⟨l, rfl, hl⟩
    · rw [List.length_map] at hh
      exact absurd (List.length_eq_zero_iff.mp hh) h0
    · have hc : s.cs l = some (.lst ((spotsOf Mk).map tT)) := by
        rw [List.length_map, List.take_length] at hv
        rw [show lstOf s (.loc l) = (match s.cs l with | some (.lst xs) => some xs | _ => none) from rfl] at hv
        split at hv
        · rename_i xs e; cases hv; exact e
        · cases hv
      show wp (fin st.nxt (.loc l) s) Q
      refine wp_eq (fin_loc hl hc rows_lbC) ?_
      rw [B.2]
      exact q
end DL

namespace DL
open PySem L2
local macro_rules | `(tactic| walk_at "go") => `(tactic| repeat (first | refine wp_mb ?_ | with_reducible refine wp_mul (by first | assumption | (exact okMul_iff.mpr (by omega))) ?_ | with_reducible refine wp_mod (by first | assumption | (exact okMod_iff.mpr (by omega))) ?_ | with_reducible refine wp_div (by first | assumption | (exact okDiv_iff.mpr (by omega))) ?_ | with_reducible refine wp_pow (by first | assumption | (exact okPow_iff.mpr (by decide))) ?_ | ((with_reducible refine wp_set ?_ ?_ ?_); (focus rfl); (focus first | exact tT_lb | exact lb_int _ _ | exact lb_bl _ _ | exact lb_non _ | assumption)) | refine wp_eq rfl ?_))
local macro_rules | `(tactic| walk_at "st") => `(tactic| ((first | (refine wp_seqK ?_; intro K hK) | skip); walk_at "go"))
local macro_rules | `(tactic| walk_at "nx") => `(tactic| ((try dsimp only [List.set_cons_zero, List.set_cons_succ]); refine wp_nx (by assumption) ?_; walk_at "st"))
local macro_rules | `(tactic| walk_at "nk") => `(tactic| ((try dsimp only [List.set_cons_zero, List.set_cons_succ]); refine wp_nx (by assumption) ?_))
/-! W14 of k28: marks -/
structure MkOk (Mk : List (List Int)) : Prop where
  n0 : Mk ≠ []
  n4 : Mk.length ≤ 4
  ok : ∀ m ∈ Mk, m ≠ [] ∧ m.length ≤ 9
theorem frz_eq {st : Sto} {p : Nat} {c : Cell} (h : st.cs p = some c) : frzL (.loc p) st = some (c.val, st.kill p) := by
  show (match st.cs p with | some c => some (c.val, st.kill p) | none => none) = _
  rw [h]
theorem pool_kill {p l : Nat} {st : Sto} (h : Pool p st) (hl : l ≠ p) : Pool p (st.kill l) := by
  obtain ⟨P, hP, h2⟩ := h
  exact ⟨P, by rw [Sto.kill_ne (Ne.symm hl)]; exact hP, h2⟩
theorem drx_kill {p l : Nat} {st s : Sto} (h : Drx p st s) (hl : st.nxt ≤ l) : Drx p st (s.kill l) := ⟨h.1, by rw [Sto.restr_kill_ge hl]; exact h.2⟩
theorem kmarks_wp {p : Nat} {st : Sto} {Q : PV → Sto → Prop} (h : Pool p st) (q : ∀ Mk st', MkOk Mk → Dr p st st' → Q (.loc st'.nxt) (st'.alloc (.lst (Mk.map fun m => .lst (m.map .int))))) : wp (f_law_marks [.loc p] st) Q := by
  unfold f_law_marks
  refine wp_runF rfl ?_
  show wp (D_law_marks [some (.loc p), none, none, none, none, none, none, none] st) _
  unfold D_law_marks
  refine wp_seqK ?_
  intro K hK
  walk_at "go"
  refine draw_wp h (by decide) fun r s1 r0 r1 d1 => ?_
  refine wp_set (by rw [d1.nxt]) (lb_int _ _) ?_
  walk_at "go"
  rw [eqv_int]
  obtain ⟨mo, e1, mo4, mob⟩ : ∃ mo : List Int, opIx (.lst [.lst [.int 3, .int 3, .int 2, .int 2], .lst [.int 9, .int 5, .int 3, .int 2]]) (.int (if ((r == 0) != false) = true then 1 else 0)) s1 = some (.lst (mo.map .int), s1) ∧ mo.length = 4 ∧ ∀ x ∈ mo, 1 ≤ x ∧ x ≤ 9 := by
    cases (r == 0)
    · exact ⟨[3, 3, 2, 2], rfl, rfl, by decide⟩
    · exact ⟨[9, 5, 3, 2], rfl, rfl, by decide⟩
  refine wp_eq e1 ?_
  walk_at "go"
  walk_at "nk"
  clear hK
  refine wp_seqK ?_
  intro K hK
  walk_at "go"
  refine pick_wp (h.dr d1) (xs := [.int 2, .int 3, .int 2, .int 1, .int 2, .int 4, .int 3, .int 2]) (fun _ _ => rfl) (by decide) (by intro x hx; simp only [List.mem_cons, List.not_mem_nil, or_false] at hx; rcases hx with rfl | rfl | rfl | rfl | rfl | rfl | rfl | rfl <;> exact lb_int _ _) fun x s2 hx d2 => ?_
  obtain ⟨n, rfl, n1, n4⟩ : ∃ n : Nat, x = .int (n : Int) ∧ 1 ≤ n ∧ n ≤ 4 := by
    simp only [List.mem_cons, List.not_mem_nil, or_false] at hx
    rcases hx with rfl | rfl | rfl | rfl | rfl | rfl | rfl | rfl
    · exact ⟨2, rfl, by decide, by decide⟩
    · exact ⟨3, rfl, by decide, by decide⟩
    · exact ⟨2, rfl, by decide, by decide⟩
    · exact ⟨1, rfl, by decide, by decide⟩
    · exact ⟨2, rfl, by decide, by decide⟩
    · exact ⟨4, rfl, by decide, by decide⟩
    · exact ⟨3, rfl, by decide, by decide⟩
    · exact ⟨2, rfl, by decide, by decide⟩
  refine wp_set (by rw [d2.nxt]) (lb_int _ _) ?_
  walk_at "go"
  walk_at "nk"
  clear hK
  have dd := d1.trans d2
  clear d1 d2
  have F0 := (PL.new (st := s2) (h.dr dd) (c := .lst []) rfl)
  refine wp_seqK ?_
  intro K hK
  walk_at "go"
  walk_at "nk"
  clear hK
  refine wp_seqK ?_
  intro K hK
  walk_at "go"
  refine wp_pos (okR (by omega)) ?_
  walk_at "go"
  refine forGo_wp (its := ⟨rng 0 (n : Int), none⟩) (fun k env s => ∃ (Mk : List (List Int)) (u4 u5 u6 u7 : Option PV), env = [some (.loc p), some (.lst (mo.map .int)), some (.int (n : Int)), some (.loc s2.nxt), u4, u5, u6, u7] ∧ Mk.length = k ∧ (∀ m ∈ Mk, m ≠ [] ∧ m.length ≤ 9) ∧ PL p s2.nxt s2 s (.lst (Mk.map fun m => .lst (m.map .int)))) _ (fun k x env s hx hI => ?_) (fun env s hI => ?_) ⟨[], _, _, _, _, rfl, rfl, fun m z => (by cases z), F0⟩
  · clear F0
    obtain ⟨Mk, u4, u5, u6, u7, rfl, rfl, hM, F⟩ := hI
    obtain ⟨hk, rfl⟩ := rng_at hx
    refine ⟨Its.ok_none, wp_eq rfl ?_⟩
    refine wp_seqK ?_
    intro K2 hK2
    walk_at "go"
    refine draw_wp F.pool (by decide) fun r3 s3 a0 a1 d3 => ?_
    refine wp_set (by rw [d3.nxt]) (lb_int _ _) ?_
    replace F := F.dr d3
    clear d3
    walk_at "go"
    refine pick_wp F.pool (xs := [.int 0, .int 0, .int 1, .int r3]) (fun _ _ => rfl) (by show 0 < 4; decide) (by intro x hx; simp only [List.mem_cons, List.not_mem_nil, or_false] at hx; rcases hx with rfl | rfl | rfl | rfl <;> exact lb_int _ _) fun x s4 hx d4 => ?_
    obtain ⟨v0, rfl, v00, v01⟩ : ∃ v0 : Int, x = .int v0 ∧ 0 ≤ v0 ∧ v0 < 100 := by
      simp only [List.mem_cons, List.not_mem_nil, or_false] at hx
      rcases hx with rfl | rfl | rfl | rfl
      · exact ⟨_, rfl, by decide, by decide⟩
      · exact ⟨_, rfl, by decide, by decide⟩
      · exact ⟨_, rfl, by decide, by decide⟩
      · exact ⟨_, rfl, a0, a1⟩
    refine wp_set (by rw [d4.nxt]) (lb_int _ _) ?_
    replace F := F.dr d4
    clear d4
    walk_at "go"
    walk_at "nk"
    clear hK2
    have hlt : s2.nxt < s4.nxt := Sto.lt_of F.at'
    have G : PL p s4.nxt s2 (s4.alloc (.lst (([v0] : List Int).map .int))) (.lst (([v0] : List Int).map .int)) := ⟨F.pool.alloc, F.drx.alloc, Sto.alloc_get ints_lb, F.drx.1, F.hp⟩
    replace F := F.alloc (c2 := .lst (([v0] : List Int).map .int))
    refine wp_seqK ?_
    intro K2 hK2
    walk_at "go"
    have em : ∀ s : Sto, opIx (.lst (mo.map .int)) (.int ((n : Int) - 1)) s = some (.int (mo.getD (n - 1) 0), s) := fun s => by
      rw [show (n : Int) - 1 = ((n - 1 : Nat) : Int) by omega]
      exact seq_ix rfl (atI_nat (by rw [List.getElem?_map, List.getElem?_eq_getElem (by omega), getD_at (by omega)]; rfl))
    refine wp_eq (em _) ?_
    walk_at "go"
    have hmo := mob (mo.getD (n - 1) 0) (by rw [getD_at (by omega)]; exact List.getElem_mem _)
    refine draw_wp F.pool (by omega) fun r5 s5 b0 b1 d5 => ?_
    refine wp_set (by rw [d5.nxt]) (lb_int _ _) ?_
    replace F := F.dr d5
    replace G := G.dr d5
    walk_at "go"
    refine pick_wp F.pool (xs := [.int 1, .int 1, .int r5]) (fun _ _ => rfl) (by show 0 < 3; decide) (by intro x hx; simp only [List.mem_cons, List.not_mem_nil, or_false] at hx; rcases hx with rfl | rfl | rfl <;> exact lb_int _ _) fun x s6 hx d6 => ?_
    obtain ⟨T, rfl, T8⟩ : ∃ T : Nat, x = .int (T : Int) ∧ T ≤ 8 := by
      simp only [List.mem_cons, List.not_mem_nil, or_false] at hx
      rcases hx with rfl | rfl | rfl
      · exact ⟨1, rfl, by decide⟩
      · exact ⟨1, rfl, by decide⟩
      · exact ⟨r5.toNat, by rw [Int.toNat_of_nonneg b0], by omega⟩
    refine wp_set (by rw [d6.nxt]) (lb_int _ _) ?_
    replace F := F.dr d6
    replace G := G.dr d6
    clear d5 d6
    walk_at "go"
    refine wp_pos (okR (by omega)) ?_
    walk_at "go"
    refine forGo_wp (its := ⟨rng 0 (T : Int), none⟩) (fun k2 env s => ∃ (vs : List Int) (u6 u7 : Option PV), env = [some (.loc p), some (.lst (mo.map .int)), some (.int (n : Int)), some (.loc s2.nxt), some (.int (Mk.length : Int)), some (.loc s4.nxt), u6, u7] ∧ vs ≠ [] ∧ vs.length ≤ 1 + k2 ∧ (∀ v ∈ vs, 0 ≤ v ∧ v < 100) ∧ PL p s2.nxt s2 s (.lst (Mk.map fun m => .lst (m.map .int))) ∧ PL p s4.nxt s2 s (.lst (vs.map .int))) _ (fun k2 x env s hx hI => ?_) (fun env s hI => ?_) ⟨[v0], _, _, rfl, by simp, Nat.le_refl _, fun v z => (by rw [List.mem_singleton] at z; subst z; exact ⟨v00, v01⟩), F, G⟩
    · clear F G
      obtain ⟨vs, u6, u7, rfl, vn, vl, vb, F, G⟩ := hI
      obtain ⟨hk2, rfl⟩ := rng_at hx
      have hvp := List.length_pos_iff.mpr vn
      refine ⟨Its.ok_none, wp_eq rfl ?_⟩
      refine wp_seqK ?_
      intro K3 hK3
      walk_at "go"
      have sq : seqOf s (.loc s4.nxt) = some (vs.map .int) := by
        show (match s.cs s4.nxt with | some (.lst xs) => some xs | _ => none) = _
        rw [G.at']
      refine wp_eq (seq_len sq) ?_
      rw [List.length_map]
      walk_at "go"
      rw [show (vs.length : Int) - 1 = ((vs.length - 1 : Nat) : Int) by omega]
      refine wp_eq (seq_ix sq (atI_nat (by rw [List.getElem?_map, List.getElem?_eq_getElem (show vs.length - 1 < vs.length by omega)]; rfl))) ?_
      have hv := vb _ (List.getElem_mem (show vs.length - 1 < vs.length by omega))
      generalize vs[vs.length - 1] = la at hv
      walk_at "go"
      walk_at "nk"
      clear hK3
      walk_at "go"
      refine wp_if (fun hr => ?_) (fun hr => ?_)
      · have hlt99 : la < 99 := by simpa using hr
        walk_at "go"
        refine wp_eq (loc_asL G.at') ?_
        walk_at "go"
        refine draw_wp F.pool (by omega) fun r7 s7 w0 w1 d7 => ?_
        refine wp_set (by rw [d7.nxt]) (lb_int _ _) ?_
        replace F := F.dr d7
        replace G := G.dr d7
        walk_at "go"
        refine pick_wp F.pool (xs := [.int 0, .int 0, .int r7]) (fun _ _ => rfl) (by show 0 < 3; decide) (by intro x hx; simp only [List.mem_cons, List.not_mem_nil, or_false] at hx; rcases hx with rfl | rfl | rfl <;> exact lb_int _ _) fun x s8 hx d8 => ?_
        obtain ⟨e, rfl, e0, e1⟩ : ∃ e : Int, x = .int e ∧ 0 ≤ e ∧ e < 99 - la := by
          simp only [List.mem_cons, List.not_mem_nil, or_false] at hx
          rcases hx with rfl | rfl | rfl
          · exact ⟨0, rfl, by omega, by omega⟩
          · exact ⟨0, rfl, by omega, by omega⟩
          · exact ⟨_, rfl, w0, w1⟩
        refine wp_set (by rw [d8.nxt]) (lb_int _ _) ?_
        replace F := F.dr d8
        replace G := G.dr d8
        walk_at "go"
        refine wp_eq (loc_append G.at' (by rw [List.length_map, sizeLine_eq]; omega) (lb_int _ _)) ?_
        walk_at "go"
        have ee : vs.map PV.int ++ [.int (la + 1 + e)] = (vs ++ [la + 1 + e]).map PV.int := by rw [List.map_append]; rfl
        rw [ee]
        refine ⟨vs ++ [la + 1 + e], _, _, rfl, by simp, by rw [List.length_append]; show vs.length + 1 ≤ _; omega, fun v hv => ?_, F.other (by omega) (by omega), G.put ints_lb⟩
        rcases List.mem_append.mp hv with hv | hv
        · exact vb v hv
        · rw [List.mem_singleton] at hv; subst hv; omega
      · walk_at "go"
        exact ⟨vs, _, _, rfl, vn, by omega, vb, F, G⟩
    · clear F G
      obtain ⟨vs, u6, u7, rfl, vn, vl, vb, F, G⟩ := hI
      have vl : vs.length ≤ 1 + T := by rw [show (Its.mk (rng 0 (T : Int)) none).items.length = T from rng_len] at vl; exact vl
      refine ⟨Its.ok_none, ?_⟩
      walk_at "nk"
      clear hK2
      walk_at "go"
      refine wp_eq (loc_asL F.at') ?_
      walk_at "go"
      refine wp_eq (frz_eq G.at') ?_
      walk_at "go"
      have hlt2 : s2.nxt < s4.nxt := hlt
      have hkc : (s.kill s4.nxt).cs s2.nxt = some (.lst (Mk.map fun m => .lst (m.map .int))) := by rw [Sto.kill_ne (by omega)]; exact F.at'
      refine wp_eq (loc_append (v := .lst (vs.map .int)) hkc (by rw [List.length_map, sizeLine_eq]; omega) (lst_lb ints_lb)) ?_
      walk_at "go"
      have ee : (Mk.map fun m => PV.lst (m.map .int)) ++ [.lst (vs.map .int)] = (Mk ++ [vs]).map fun m => PV.lst (m.map .int) := by rw [List.map_append]; rfl
      rw [ee]
      have F9 : PL p s2.nxt s2 (s.kill s4.nxt) (.lst (Mk.map fun m => .lst (m.map .int))) := ⟨pool_kill F.pool (by have := F.hp; omega), drx_kill F.drx (by omega), hkc, F.hl, F.hp⟩
      refine ⟨Mk ++ [vs], _, _, _, _, rfl, by rw [List.length_append]; rfl, fun m hm => ?_, F9.put (lbs_map (f := fun m : List Int => PV.lst (m.map .int)) (fun m => lst_lb ints_lb) _)⟩
      rcases List.mem_append.mp hm with hm | hm
      · exact hM m hm
      · rw [List.mem_singleton] at hm; subst hm; exact ⟨vn, by omega⟩
  · clear F0
    obtain ⟨Mk, u4, u5, u6, u7, rfl, hl, hM, F⟩ := hI
    have hl : Mk.length = n := by rw [hl]; exact rng_len
    refine ⟨Its.ok_none, ?_⟩
    walk_at "nk"
    walk_at "go"
    show wp (fin st.nxt (.loc s2.nxt) s) Q
    have hb : (Cell.lst (Mk.map fun m => PV.lst (m.map .int))).lb s2.nxt = true := lbs_map (f := fun m : List Int => PV.lst (m.map .int)) (fun m => lst_lb ints_lb) Mk
    rw [← dd.nxt]
    refine wp_eq (F.fin hb) ?_
    exact q Mk _ ⟨fun z => by rw [z, List.length_nil] at hl; omega, by omega, hM⟩ (dd.trans F.drx.2)
end DL

namespace DL
open PySem L2
local macro_rules | `(tactic| walk_at "go") => `(tactic| repeat (first | refine wp_mb ?_ | with_reducible refine wp_mul (by first | assumption | (exact okMul_iff.mpr (by omega))) ?_ | with_reducible refine wp_mod (by first | assumption | (exact okMod_iff.mpr (by omega))) ?_ | with_reducible refine wp_div (by first | assumption | (exact okDiv_iff.mpr (by omega))) ?_ | with_reducible refine wp_pow (by first | assumption | (exact okPow_iff.mpr (by decide))) ?_ | ((with_reducible refine wp_set ?_ ?_ ?_); (focus rfl); (focus first | exact tT_lb | exact lb_int _ _ | exact lb_bl _ _ | exact lb_non _ | assumption)) | refine wp_eq rfl ?_))
local macro_rules | `(tactic| walk_at "st") => `(tactic| ((first | (refine wp_seqK ?_; intro K hK) | skip); walk_at "go"))
local macro_rules | `(tactic| walk_at "nx") => `(tactic| ((try dsimp only [List.set_cons_zero, List.set_cons_succ]); refine wp_nx (by assumption) ?_; walk_at "st"))
local macro_rules | `(tactic| walk_at "nk") => `(tactic| ((try dsimp only [List.set_cons_zero, List.set_cons_succ]); refine wp_nx (by assumption) ?_))
/-! W15 of k28: columns, the line -/
theorem rng_nI : ∀ n : Nat, rng 0 (n : Int) = (List.range n).map nI := fun n => by
  refine List.ext_getElem? fun k => ?_
  cases e : (rng 0 (n : Int))[k]? with
  | none =>
    rw [List.getElem?_eq_none_iff] at e
    rw [rng_len] at e
    rw [List.getElem?_eq_none (by rw [List.length_map, List.length_range]; exact e)]
  | some x =>
    obtain ⟨hk, rfl⟩ := rng_at e
    rw [List.getElem?_map, List.getElem?_range hk]
    rfl
theorem kcolumns_wp {p w n : Nat} {st : Sto} {Q : PV → Sto → Prop} (h : Pool p st) (hw : w ≤ 1000) (hn : n ≤ w) (q : ∀ (C : List Nat) st', C.length = n → (∀ c ∈ C, c < w) → Dr p st st' → Q (.loc st'.nxt) (st'.alloc (.lst (C.map nI)))) : wp (f_law_columns [.loc p, nI w, nI n] st) Q := by
  unfold f_law_columns
  refine wp_runF rfl ?_
  show wp (D_law_columns [some (.loc p), some (nI w), some (nI n), none, none, none, none] st) _
  unfold D_law_columns
  have e0 : dListR false (dVar 1) [some (.loc p), some (nI w), some (nI n), none, none, none, none] st = some (.lst ((List.range w).map nI), st) := by
    unfold dListR
    rw [show dVar 1 [some (.loc p), some (nI w), some (nI n), none, none, none, none] st = some (nI w, st) from rfl, mb_some, show asI (nI w) st = some ((w : Int), st) from rfl, mb_some]
    have hd : decide ((w : Int).toNat ≤ 1000000) = true := decide_eq_true (by omega)
    rw [okR (show w ≤ 1000000 by omega), hd, if_pos (show (true && true) = true from rfl), rng_nI]
    exact mkV_eq (okL (by rw [List.length_map, List.length_range]; omega))
  refine wp_seqK ?_
  intro K hK
  refine wp_mb (wp_eq e0 ?_)
  walk_at "go"
  walk_at "nk"
  clear hK e0
  have F0 := (PL.new (st := st) h (c := .lst []) rfl)
  refine wp_seqK ?_
  intro K hK
  walk_at "go"
  walk_at "nk"
  clear hK
  refine wp_seqK ?_
  intro K hK
  walk_at "go"
  refine wp_pos (okR (by omega)) ?_
  walk_at "go"
  refine forGo_wp (its := ⟨rng 0 (n : Int), none⟩) (fun k env s => ∃ (fr C : List Nat) (u5 u6 : Option PV), env = [some (.loc p), some (nI w), some (nI n), some (.lst (fr.map nI)), some (.loc st.nxt), u5, u6] ∧ fr.length = w - k ∧ C.length = k ∧ (∀ c ∈ fr, c < w) ∧ (∀ c ∈ C, c < w) ∧ PL p st.nxt st s (.lst (C.map nI))) _ (fun k x env s hx hI => ?_) (fun env s hI => ?_) ⟨List.range w, [], _, _, rfl, by rw [List.length_range]; rfl, rfl, fun c hc => List.mem_range.mp hc, fun c z => (by cases z), F0⟩
  · clear F0
    obtain ⟨fr, C, u5, u6, rfl, hf, rfl, hfr, hC, F⟩ := hI
    obtain ⟨hk, rfl⟩ := rng_at hx
    refine ⟨Its.ok_none, wp_eq rfl ?_⟩
    refine wp_seqK ?_
    intro K2 hK2
    walk_at "go"
    rw [List.length_map]
    refine draw_wp F.pool (by omega) fun r s1 r0 r1 d1 => ?_
    refine wp_set (by rw [d1.nxt]) (lb_int _ _) ?_
    replace F := F.dr d1
    clear d1
    obtain ⟨a, rfl⟩ := Int.eq_ofNat_of_zero_le r0
    have ha : a < fr.length := by omega
    walk_at "go"
    walk_at "nk"
    clear hK2
    refine wp_seqK ?_
    intro K2 hK2
    walk_at "go"
    refine wp_eq (loc_asL F.at') ?_
    walk_at "go"
    refine wp_eq (seq_ix (xs := fr.map nI) rfl (atI_nat (by rw [List.getElem?_map, List.getElem?_eq_getElem ha]; rfl))) ?_
    walk_at "go"
    refine wp_eq (loc_append F.at' (by rw [List.length_map, sizeLine_eq]; omega) (lb_int _ _)) ?_
    walk_at "go"
    walk_at "nk"
    clear hK2
    walk_at "go"
    have c1 : ∀ s : Sto, mkL false (cutP (fr.map nI) none (some (a : Int))) s = some (.lst ((fr.take a).map nI), s) := fun s => by
      rw [cutL_to rfl (by rw [List.length_map]; omega), ← List.map_take]
      exact mkV_eq (okL (by rw [List.length_map, List.length_take]; omega))
    have c2 : ∀ s : Sto, mkL false (cutP (fr.map nI) (some ((a : Int) + 1)) none) s = some (.lst ((fr.drop (a + 1)).map nI), s) := fun s => by
      rw [cutL_from (k := a + 1) (by omega) (by rw [List.length_map]; omega), ← List.map_drop]
      exact mkV_eq (okL (by rw [List.length_map, List.length_drop]; omega))
    refine wp_eq (c1 _) ?_
    walk_at "go"
    refine wp_eq (c2 _) ?_
    walk_at "go"
    have c3 : ∀ s : Sto, opAdd false (.lst ((fr.take a).map nI)) (.lst ((fr.drop (a + 1)).map nI)) s = some (.lst ((fr.take a ++ fr.drop (a + 1)).map nI), s) := fun s => by
      rw [List.map_append]
      exact mkV_eq (okL (by rw [List.length_append, List.length_map, List.length_map, List.length_take, List.length_drop]; omega))
    refine wp_eq (c3 _) ?_
    walk_at "go"
    have ee : C.map nI ++ [nI fr[a]] = (C ++ [fr[a]]).map nI := by rw [List.map_append]; rfl
    rw [ee]
    refine ⟨fr.take a ++ fr.drop (a + 1), C ++ [fr[a]], _, _, rfl, by rw [List.length_append, List.length_take, List.length_drop]; omega, by rw [List.length_append]; rfl, fun c hc => ?_, fun c hc => ?_, F.put (lbs_map (fun n => lb_int _ _) _)⟩
    · rcases List.mem_append.mp hc with hc | hc
      · exact hfr c (List.mem_of_mem_take hc)
      · exact hfr c (List.mem_of_mem_drop hc)
    · rcases List.mem_append.mp hc with hc | hc
      · exact hC c hc
      · rw [List.mem_singleton] at hc; subst hc; exact hfr _ (List.getElem_mem ha)
  · obtain ⟨fr, C, u5, u6, rfl, hf, hl, hfr, hC, F⟩ := hI
    have hl : C.length = n := by rw [hl]; exact rng_len
    refine ⟨Its.ok_none, ?_⟩
    walk_at "nk"
    walk_at "go"
    show wp (fin st.nxt (.loc st.nxt) s) Q
    refine wp_eq (F.fin (lbs_map (fun n => lb_int _ _) _)) ?_
    exact q C _ hl hC F.drx.2
end DL

namespace DL
open PySem L2
local macro_rules | `(tactic| walk_at "go") => `(tactic| repeat (first | refine wp_mb ?_ | with_reducible refine wp_mul (by first | assumption | (exact okMul_iff.mpr (by omega))) ?_ | with_reducible refine wp_mod (by first | assumption | (exact okMod_iff.mpr (by omega))) ?_ | with_reducible refine wp_div (by first | assumption | (exact okDiv_iff.mpr (by omega))) ?_ | with_reducible refine wp_pow (by first | assumption | (exact okPow_iff.mpr (by decide))) ?_ | ((with_reducible refine wp_set ?_ ?_ ?_); (focus rfl); (focus first | exact tT_lb | exact lb_int _ _ | exact lb_bl _ _ | exact lb_non _ | assumption)) | refine wp_eq rfl ?_))
local macro_rules | `(tactic| walk_at "st") => `(tactic| ((first | (refine wp_seqK ?_; intro K hK) | skip); walk_at "go"))
local macro_rules | `(tactic| walk_at "nx") => `(tactic| ((try dsimp only [List.set_cons_zero, List.set_cons_succ]); refine wp_nx (by assumption) ?_; walk_at "st"))
local macro_rules | `(tactic| walk_at "nk") => `(tactic| ((try dsimp only [List.set_cons_zero, List.set_cons_succ]); refine wp_nx (by assumption) ?_))
/-! W16 of k28: the line -/
theorem kmin_eq (x a b : Nat) : (if (a : Int) < (x : Int) then (if (b : Int) < (a : Int) then (b : Int) else (a : Int)) else (if (b : Int) < (x : Int) then (b : Int) else (x : Int))) = ((min x (min a b) : Nat) : Int) := by
  split <;> split <;> omega
theorem kline_wp {p w0 w1 : Nat} {st : Sto} {Q : PV → Sto → Prop} (h : Pool p st) (h0 : 1 ≤ w0 ∧ w0 ≤ 4) (h1 : 1 ≤ w1 ∧ w1 ≤ 4) (q : ∀ (ln : PV) (Pr : List (Nat × Nat)) (Tm : List (Sd × Nat)) st', LineOk ln Pr Tm → PrOk Pr w0 w1 → TmOk Tm w0 w1 → TmLow Tm → Tm.length ≤ 10 → ln.lb 0 = true → Dr p st st' → Q ln st') : wp (f_law_line [.loc p, .tup [nI w0, nI w1]] st) Q := by
  unfold f_law_line
  refine wp_runF rfl ?_
  show wp (D_law_line [some (.loc p), some (.tup [nI w0, nI w1]), none, none, none, none, none, none, none] st) _
  unfold D_law_line
  refine wp_seqK ?_
  intro K hK
  walk_at "go"
  refine pick_wp h (xs := [.int 1, .int 2, .int 1, .int 3]) (fun _ _ => rfl) (by decide) (by intro x hx; simp only [List.mem_cons, List.not_mem_nil, or_false] at hx; rcases hx with rfl | rfl | rfl | rfl <;> exact lb_int _ _) fun y s1 hx d1 => ?_
  obtain ⟨x, rfl, x0, x3⟩ : ∃ n : Nat, y = PV.int (n : Int) ∧ 1 ≤ n ∧ n ≤ 3 := by
    simp only [List.mem_cons, List.not_mem_nil, or_false] at hx
    rcases hx with rfl | rfl | rfl | rfl
    · exact ⟨1, rfl, by decide, by decide⟩
    · exact ⟨2, rfl, by decide, by decide⟩
    · exact ⟨1, rfl, by decide, by decide⟩
    · exact ⟨3, rfl, by decide, by decide⟩
  refine wp_set (by rw [d1.nxt]) (lb_int _ _) ?_
  walk_at "go"
  rw [kmin_eq]
  have n0 : min x (min w0 w1) ≤ w0 := by omega
  have n1 : min x (min w0 w1) ≤ w1 := by omega
  have n3 : min x (min w0 w1) ≤ 3 := by omega
  generalize min x (min w0 w1) = n at n0 n1 n3
  walk_at "nk"
  clear hK
  refine wp_seqK ?_
  intro K hK
  walk_at "go"
  refine kcolumns_wp (h.dr d1) (by omega) n0 fun C0 s2 l0 c0 d2 => ?_
  refine wp_eq (settle_dr d2 (lbs_map (fun n => lb_int _ _) _)) ?_
  walk_at "go"
  walk_at "nk"
  clear hK
  refine wp_seqK ?_
  intro K hK
  walk_at "go"
  have d12 := d1.trans d2
  refine kcolumns_wp (h.dr d12) (by omega) n1 fun C1 s3 l1 c1 d3 => ?_
  refine wp_eq (settle_dr d3 (lbs_map (fun n => lb_int _ _) _)) ?_
  walk_at "go"
  walk_at "nk"
  clear hK
  have dd := d12.trans d3
  clear d12 d1 d2 d3
  refine wp_seqK ?_
  intro K hK
  walk_at "go"
  walk_at "nk"
  clear hK
  have F0 := PL.new (st := s3) (h.dr dd) (c := .lst []) rfl
  refine wp_seqK ?_
  intro K hK
  walk_at "go"
  refine draw_wp F0.pool (by decide) fun r s4 a0 a1 d4 => ?_
  refine wp_set (by rw [d4.nxt]) (lb_int _ _) ?_
  replace F0 := F0.dr d4
  clear d4
  obtain ⟨m, rfl⟩ := Int.eq_ofNat_of_zero_le a0
  walk_at "go"
  rw [show (1 : Int) + (m : Int) = ((1 + m : Nat) : Int) by omega]
  refine wp_pos (okR (by omega)) ?_
  walk_at "go"
  refine forGo_wp (its := ⟨rng 0 ((1 + m : Nat) : Int), none⟩) (fun k env s => ∃ (Tm : List (Sd × Nat)) (u6 : Option PV), env = [some (.loc p), some (.tup [nI w0, nI w1]), some (.int (n : Int)), some (.lst (C0.map nI)), some (.lst (C1.map nI)), some (.loc s3.nxt), u6, none, none] ∧ Tm.length = k ∧ TmOk Tm w0 w1 ∧ TmLow Tm ∧ PL p s3.nxt s3 s (.lst (Tm.map tmP))) _ (fun k x env s hx hI => ?_) (fun env s hI => ?_) ⟨[], _, rfl, rfl, fun t z => (by cases z), fun t z => (by cases z), F0⟩
  · clear F0
    obtain ⟨Tm, u6, rfl, rfl, hT, hL, F⟩ := hI
    obtain ⟨hk, rfl⟩ := rng_at hx
    refine ⟨Its.ok_none, wp_eq rfl ?_⟩
    walk_at "go"
    refine wp_eq (loc_asL F.at') ?_
    walk_at "go"
    refine draw_wp F.pool (by omega) fun r5 s5 b0 b1 d5 => ?_
    refine wp_set (by rw [d5.nxt]) (lb_int _ _) ?_
    replace F := F.dr d5
    clear d5
    walk_at "go"
    refine draw_wp F.pool (by omega) fun r6 s6 e0 e1 d6 => ?_
    refine wp_set (by rw [d6.nxt]) (lb_int _ _) ?_
    replace F := F.dr d6
    clear d6
    walk_at "go"
    refine draw_wp F.pool (by decide) fun r7 s7 g0 g1 d7 => ?_
    refine wp_set (by rw [d7.nxt]) (lb_int _ _) ?_
    replace F := F.dr d7
    clear d7
    walk_at "go"
    obtain ⟨a5, rfl⟩ := Int.eq_ofNat_of_zero_le b0
    obtain ⟨a6, rfl⟩ := Int.eq_ofNat_of_zero_le e0
    obtain ⟨a7, rfl⟩ := Int.eq_ofNat_of_zero_le g0
    refine pick_wp F.pool (xs := [tmP (.l, a5), tmP (.r, a6), tmP (.n, a7)]) (fun _ _ => rfl) (by show 0 < 3; decide) (by intro x hx; simp only [List.mem_cons, List.not_mem_nil, or_false] at hx; rcases hx with rfl | rfl | rfl <;> rfl) fun x s8 hx d8 => ?_
    obtain ⟨t, rfl, ht, ht2⟩ : ∃ t : Sd × Nat, x = tmP t ∧ TmOk [t] w0 w1 ∧ TmLow [t] := by
      simp only [List.mem_cons, List.not_mem_nil, or_false] at hx
      rcases hx with rfl | rfl | rfl
      · exact ⟨_, rfl, fun t z => by rw [List.mem_singleton] at z; subst z; show a5 < w0; omega, fun t z => by rw [List.mem_singleton] at z; subst z; trivial⟩
      · exact ⟨_, rfl, fun t z => by rw [List.mem_singleton] at z; subst z; show a6 < w1; omega, fun t z => by rw [List.mem_singleton] at z; subst z; trivial⟩
      · exact ⟨_, rfl, fun t z => by rw [List.mem_singleton] at z; subst z; trivial, fun t z => by rw [List.mem_singleton] at z; subst z; show a7 < 100; omega⟩
    have tl : ∀ n, (tmP t).lb n = true := fun n => rfl
    refine wp_set (by rw [d8.nxt]) (tl _) ?_
    replace F := F.dr d8
    clear d8
    walk_at "go"
    refine wp_eq (loc_append F.at' (by rw [List.length_map, sizeLine_eq]; omega) (tl _)) ?_
    walk_at "go"
    have ee : Tm.map tmP ++ [tmP t] = (Tm ++ [t]).map tmP := by rw [List.map_append]; rfl
    rw [ee]
    refine ⟨Tm ++ [t], _, rfl, by rw [List.length_append]; rfl, fun z hz => ?_, fun z hz => ?_, F.put (lbs_map (fun _ => rfl) _)⟩
    · rcases List.mem_append.mp hz with hz | hz
      · exact hT z hz
      · exact ht z hz
    · rcases List.mem_append.mp hz with hz | hz
      · exact hL z hz
      · exact ht2 z hz
  · obtain ⟨Tm, u6, rfl, hl, hT, hL, F⟩ := hI
    have hl : Tm.length = 1 + m := by rw [hl]; exact rng_len
    refine ⟨Its.ok_none, ?_⟩
    walk_at "nk"
    clear hK
    refine wp_seqK ?_
    intro K hK
    walk_at "go"
    refine wp_pos (okR (by omega)) ?_
    walk_at "go"
    refine wp_eq (lc_items (its := ⟨rng 0 (n : Int), none⟩) ((List.range n).map fun k => prP (C0.getD k 0, C1.getD k 0)) Its.ok_none (by rw [List.length_map, List.length_range]; exact rng_len.symm) (fun k x hx => ?_)) ?_
    · obtain ⟨hk, rfl⟩ := rng_at hx
      refine ⟨_, prP (C0.getD k 0, C1.getD k 0), rfl, by rw [List.getElem?_map, List.getElem?_range hk]; rfl, eq_of_wp ?_⟩
      walk_at "go"
      refine wp_eq (seq_ix (xs := C0.map nI) (x := nI (C0.getD k 0)) rfl (atI_nat (by rw [List.getElem?_map, List.getElem?_eq_getElem (by omega), List.getD_eq_getElem?_getD, List.getElem?_eq_getElem (by omega)]; rfl))) ?_
      walk_at "go"
      refine wp_eq (seq_ix (xs := C1.map nI) (x := nI (C1.getD k 0)) rfl (atI_nat (by rw [List.getElem?_map, List.getElem?_eq_getElem (by omega), List.getD_eq_getElem?_getD, List.getElem?_eq_getElem (by omega)]; rfl))) ?_
      walk_at "go"
      first | exact ⟨rfl, rfl⟩ | exact wp_ret ⟨rfl, rfl⟩ | exact wp_eq (mkT_eq (okL (show 2 ≤ 1000000 by decide))) ⟨rfl, rfl⟩
    refine wp_eq (mkV_eq (okL (by rw [List.length_map, List.length_range]; omega))) ?_
    walk_at "go"
    refine wp_eq (bTuple_lst (by rw [List.length_map, List.length_range]; omega)) ?_
    walk_at "go"
    walk_at "nk"
    clear hK
    walk_at "go"
    refine pick_wp F.pool (xs := [.str "b", .str "a"]) (fun _ _ => rfl) (by show 0 < 2; decide) (by intro x hx; simp only [List.mem_cons, List.not_mem_nil, or_false] at hx; rcases hx with rfl | rfl <;> rfl) fun x s9 hx d9 => ?_
    have hxl : ∀ n, x.lb n = true := fun n => by
      simp only [List.mem_cons, List.not_mem_nil, or_false] at hx
      rcases hx with rfl | rfl <;> rfl
    refine wp_set (by rw [d9.nxt]) (hxl _) ?_
    replace F := F.dr d9
    clear d9
    walk_at "go"
    have bt : bTuple [.loc s3.nxt] s9 = some (.tup (Tm.map tmP), s9) := by
      show (match seqOf s9 (.loc s3.nxt) with | some xs => mkT xs s9 | none => none) = _
      rw [show seqOf s9 (.loc s3.nxt) = (match s9.cs s3.nxt with | some (.lst xs) => some xs | _ => none) from rfl, F.at']
      exact mkT_eq (okL (by rw [List.length_map]; omega))
    refine wp_eq bt ?_
    walk_at "go"
    have epr : ((List.range n).map fun k => prP (C0.getD k 0, C1.getD k 0)) = ((List.range n).map fun k => (C0.getD k 0, C1.getD k 0)).map prP := by rw [List.map_map]; rfl
    rw [epr]
    generalize hPr : ((List.range n).map fun k => (C0.getD k 0, C1.getD k 0)) = Pr
    have hln : ∀ j, (PV.tup [.str "join", .str "j", .str "a", x, .tup (Pr.map prP), .tup (Tm.map tmP)]).lb j = true := fun j => by
      rw [lb_tup, lbs_cons, lbs_cons, lbs_cons, lbs_cons, hxl, lbs_cons, tup_lb (lbs_map (fun _ => rfl) Pr), lbs_cons, tup_lb (lbs_map (fun _ => rfl) Tm), lbs_nil]
      rfl
    show wp (fin st.nxt (.tup [.str "join", .str "j", .str "a", x, .tup (Pr.map prP), .tup (Tm.map tmP)]) s9) Q
    refine wp_eq (fin_val (hln _)) ?_
    rw [← dd.nxt]
    refine q _ Pr Tm _ ⟨fun _ => rfl, fun _ => rfl⟩ ⟨by rw [← hPr, List.length_map, List.length_range]; omega, fun z hz => ?_⟩ hT hL (by omega) (hln 0) (dd.trans F.drx.2)
    rw [← hPr] at hz
    obtain ⟨k, hk, rfl⟩ := List.mem_map.mp hz
    have hk := List.mem_range.mp hk
    refine ⟨c0 _ ?_, c1 _ ?_⟩
    · show C0.getD k 0 ∈ C0
      rw [List.getD_eq_getElem?_getD, List.getElem?_eq_getElem (by omega)]
      exact List.getElem_mem _
    · show C1.getD k 0 ∈ C1
      rw [List.getD_eq_getElem?_getD, List.getElem?_eq_getElem (by omega)]
      exact List.getElem_mem _
end DL

namespace DL
open PySem L2
local macro_rules | `(tactic| walk_at "go") => `(tactic| repeat (first | refine wp_mb ?_ | with_reducible refine wp_mul (by first | assumption | (exact okMul_iff.mpr (by omega))) ?_ | with_reducible refine wp_mod (by first | assumption | (exact okMod_iff.mpr (by omega))) ?_ | with_reducible refine wp_div (by first | assumption | (exact okDiv_iff.mpr (by omega))) ?_ | with_reducible refine wp_pow (by first | assumption | (exact okPow_iff.mpr (by decide))) ?_ | ((with_reducible refine wp_set ?_ ?_ ?_); (focus rfl); (focus first | exact tT_lb | exact lb_int _ _ | exact lb_bl _ _ | exact lb_non _ | assumption)) | refine wp_eq rfl ?_))
local macro_rules | `(tactic| walk_at "st") => `(tactic| ((first | (refine wp_seqK ?_; intro K hK) | skip); walk_at "go"))
local macro_rules | `(tactic| walk_at "nx") => `(tactic| ((try dsimp only [List.set_cons_zero, List.set_cons_succ]); refine wp_nx (by assumption) ?_; walk_at "st"))
local macro_rules | `(tactic| walk_at "nk") => `(tactic| ((try dsimp only [List.set_cons_zero, List.set_cons_succ]); refine wp_nx (by assumption) ?_))
/-! W17 of k28: listed -/
def lst1 (t : List Int) (D : List (List Int × Int)) : List Chg := (rE.sort (D.map (·.1))).map fun r => (r, t, (aget r D).getD 0)
def lstd : List (List Int) → List (List (List Int × Int)) → List Chg
  | t :: S, D :: Ds => lst1 t D ++ lstd S Ds
  | _, _ => []
theorem lstd_snoc : ∀ {S : List (List Int)} {Ds : List (List (List Int × Int))} {k : Nat} {t : List Int} {D : List (List Int × Int)}, S[k]? = some t → Ds[k]? = some D → lstd (S.take (k + 1)) (Ds.take (k + 1)) = lstd (S.take k) (Ds.take k) ++ lst1 t D
  | [], _, _, _, _, h, _ => by cases h
  | _ :: _, [], _, _, _, _, h => by cases h
  | x :: S, E :: Ds, 0, t, D, h1, h2 => by
    cases h1; cases h2
    show lst1 x E ++ lstd (S.take 0) (Ds.take 0) = _
    rw [List.take_zero, List.take_zero, List.take_zero, List.take_zero]
    show lst1 x E ++ [] = [] ++ lst1 x E
    rw [List.append_nil, List.nil_append]
  | x :: S, E :: Ds, k + 1, t, D, h1, h2 => by
    show lst1 x E ++ lstd (S.take (k + 1)) (Ds.take (k + 1)) = (lst1 x E ++ lstd (S.take k) (Ds.take k)) ++ _
    rw [lstd_snoc (S := S) (Ds := Ds) (k := k) h1 h2, List.append_assoc]
theorem lst1_len {t : List Int} {D : List (List Int × Int)} : (lst1 t D).length = D.length := by
  unfold lst1
  rw [List.length_map, rE.sort_len, List.length_map]
theorem klisted_wp {S : List (List Int)} {Ds : List (List (List Int × Int))} {ps : List PV} {st : Sto} {Q : PV → Sto → Prop} (hS : S.length ≤ 6561) (hDs : Ds.length = S.length) (hB : ∀ (k : Nat) (D : List (List Int × Int)), Ds[k]? = some D → ∃ p t, ps[k]? = some (.loc p) ∧ st.cs p = some (dC rE D t))
    (hD : ∀ D ∈ Ds, D.length ≤ 100 ∧ ∀ x ∈ D, x.1 ≠ []) (q : Q (.loc st.nxt) (st.alloc (.lst ((lstd S Ds).map chP)))) : wp (f_law_listed [.lst ps, rowsL S] st) Q := by
  unfold f_law_listed
  refine wp_runF rfl ?_
  show wp (D_law_listed [some (.lst ps), some (rowsL S), none, none, none] st) _
  unfold D_law_listed
  refine wp_seqK ?_
  intro K hK
  walk_at "go"
  walk_at "nk"
  clear hK
  refine wp_seqK ?_
  intro K hK
  walk_at "go"
  rw [List.length_map]
  refine wp_pos (okR (by omega)) ?_
  walk_at "go"
  refine forGo_wp (its := ⟨rng 0 (S.length : Int), none⟩) (fun k env s => ∃ (u3 u4 : Option PV), env = [some (.lst ps), some (rowsL S), some (.loc st.nxt), u3, u4] ∧ Ab st s ∧ s.cs st.nxt = some (.lst ((lstd (S.take k) (Ds.take k)).map chP)) ∧ (lstd (S.take k) (Ds.take k)).length ≤ k * 100) _ (fun k x env s hx hI => ?_) (fun env s hI => ?_) ⟨_, _, rfl, Ab.refl.alloc, Sto.alloc_get rfl, Nat.zero_le _⟩
  · obtain ⟨u3, u4, rfl, B, c, hl⟩ := hI
    obtain ⟨hk, rfl⟩ := rng_at hx
    obtain ⟨p, t, hp, hc0⟩ := hB k Ds[k] (List.getElem?_eq_getElem (by omega))
    have hc := B.get hc0
    obtain ⟨d1, d2⟩ := hD _ (List.getElem_mem (show k < Ds.length by omega))
    have hDk : Ds[k]? = some Ds[k] := List.getElem?_eq_getElem (by omega)
    generalize Ds[k] = D at hc hc0 d1 d2 hDk
    refine ⟨Its.ok_none, wp_eq rfl ?_⟩
    walk_at "go"
    refine wp_eq (loc_asL c) ?_
    walk_at "go"
    refine wp_eq (seq_ix (xs := ps) rfl (atI_nat hp)) ?_
    walk_at "go"
    have hne : ∀ a ∈ D.map (·.1), ∃ x r, rE.d a = .tuple (x :: r) := fun a ha => by
      obtain ⟨y, hy, rfl⟩ := List.mem_map.mp ha
      have := d2 y hy
      cases e : y.1 with
      | nil => exact absurd e this
      | cons x r => exact ⟨_, _, rfl⟩
    rw [dct_sorted hc, akP_map, rE.sortGo_eq (by rw [List.length_map, sizeLine_eq]; omega) hne]
    have hsl : (rE.sort (D.map (·.1))).length = D.length := by rw [rE.sort_len, List.length_map]
    refine wp_eq (mkV_eq (okL (by rw [List.length_map, hsl]; omega))) ?_
    walk_at "go"
    refine wp_eq (lc_items (its := ⟨(rE.sort (D.map (·.1))).map rE.p, none⟩) ((lst1 S[k] D).map chP) Its.ok_none (by unfold lst1; rw [List.length_map, List.length_map]; exact (List.length_map _).symm) (fun j x hx => ?_)) ?_
    · have hx : ((rE.sort (D.map (·.1))).map rE.p)[j]? = some x := hx
      obtain ⟨r, hr, hrm, rfl⟩ := get_map hx
      refine ⟨_, chP (r, S[k], (aget r D).getD 0), rfl, by unfold lst1; rw [List.map_map, List.getElem?_map, hr]; rfl, eq_of_wp ?_⟩
      walk_at "go"
      refine wp_eq (seq_ix (xs := S.map tT) (x := tT S[k]) rfl (atI_nat (by rw [List.getElem?_map, List.getElem?_eq_getElem hk]; rfl))) ?_
      walk_at "go"
      refine wp_eq (seq_ix (xs := ps) rfl (atI_nat hp)) ?_
      walk_at "go"
      refine wp_eq (dC_ix rE hc (rE.sort_mem.mp hrm)) ?_
      walk_at "go"
      first | exact ⟨rfl, rfl⟩ | exact wp_ret ⟨rfl, rfl⟩ | exact wp_eq (mkT_eq (okL (show 3 ≤ 1000000 by decide))) ⟨rfl, rfl⟩
    refine wp_eq (mkV_eq (okL (by rw [List.length_map, lst1_len]; omega))) ?_
    walk_at "go"
    have hl1 : (lst1 S[k] D).length ≤ 100 := by rw [lst1_len]; exact d1
    refine wp_eq (ext_eq c rfl (by rw [List.length_map, List.length_map]; have : k * 100 ≤ 6561 * 100 := Nat.mul_le_mul_right _ (by omega); omega) chs_lb) ?_
    walk_at "go"
    have es := lstd_snoc (List.getElem?_eq_getElem hk) hDk
    refine ⟨_, _, rfl, B.set (Nat.le_refl _), ?_, by rw [es, List.length_append]; omega⟩
    rw [es, List.map_append]
    exact Sto.set_get c (by rw [← List.map_append]; exact chs_lbC)
  · obtain ⟨u3, u4, rfl, B, c, hl⟩ := hI
    refine ⟨Its.ok_none, ?_⟩
    walk_at "nk"
    walk_at "go"
    have c : s.cs st.nxt = some (.lst ((lstd S Ds).map chP)) := by
      have e : (Its.mk (rng 0 (S.length : Int)) none).items.length = S.length := rng_len
      rw [e, List.take_length, ← hDs, List.take_length] at c
      exact c
    show wp (fin st.nxt (.loc st.nxt) s) Q
    refine wp_eq (fin_loc (Nat.le_refl _) c chs_lbC) ?_
    rw [B.2]
    exact q
end DL

namespace DL
open PySem L2
local macro_rules | `(tactic| walk_at "go") => `(tactic| repeat (first | refine wp_mb ?_ | with_reducible refine wp_mul (by first | assumption | (exact okMul_iff.mpr (by omega))) ?_ | with_reducible refine wp_mod (by first | assumption | (exact okMod_iff.mpr (by omega))) ?_ | with_reducible refine wp_div (by first | assumption | (exact okDiv_iff.mpr (by omega))) ?_ | with_reducible refine wp_pow (by first | assumption | (exact okPow_iff.mpr (by decide))) ?_ | ((with_reducible refine wp_set ?_ ?_ ?_); (focus rfl); (focus first | exact tT_lb | exact lb_int _ _ | exact lb_bl _ _ | exact lb_non _ | assumption)) | refine wp_eq rfl ?_))
local macro_rules | `(tactic| walk_at "st") => `(tactic| ((first | (refine wp_seqK ?_; intro K hK) | skip); walk_at "go"))
local macro_rules | `(tactic| walk_at "nx") => `(tactic| ((try dsimp only [List.set_cons_zero, List.set_cons_succ]); refine wp_nx (by assumption) ?_; walk_at "st"))
local macro_rules | `(tactic| walk_at "nk") => `(tactic| ((try dsimp only [List.set_cons_zero, List.set_cons_succ]); refine wp_nx (by assumption) ?_))
/-! W18 of k28: a packet -/
abbrev Row := Int × List (List Int × Int) × List Int
def rowP (x : Row) : PV := .tup [.int x.1, bagP x.2.1, tT x.2.2]
theorem rowP_lb {n : Nat} {x : Row} : (rowP x).lb n = true := by
  unfold rowP
  refine tup_lb ?_
  rw [lbs_cons, lbs_cons, lbs_cons, lbs_nil, tT_lb, bagP_lb, lb_int]; rfl
theorem rowsP_lb {n : Nat} {l : List Row} : lbs n (l.map rowP) = true := lbs_map (fun _ => rowP_lb) l
structure RowOk (R0 R1 S : List (List Int)) (x : Row) : Prop where
  sd : x.1 = 0 ∨ x.1 = 1
  nd : (x.2.1.map (·.1)).Nodup
  len : x.2.1.length ≤ 3
  rc : ∀ y ∈ x.2.1, y.1 ∈ (if x.1 = 0 then R0 else R1) ∧ y.2.natAbs < 2 ^ 130
  tm : x.2.2 ∈ S
theorem drx_get {p l : Nat} {st s : Sto} {c : Cell} (h : Drx p st s) (hl : st.cs l = some c) (hp : l ≠ p) : s.cs l = some c := by
  obtain ⟨_, d⟩ := h
  have e := d.get hp
  rw [hl] at e
  exact (Sto.restr_get e).1
theorem bDictM_eq {D : List (List Int × Int)} (nd : (D.map (·.1)).Nodup) (hz : D.length ≤ 1000) {st : Sto} : bDict true [.lst (D.map entP)] st = some (.loc st.nxt, st.alloc (dC rE D 0)) := by
  show (match pairsOf (D.map entP) with
    | some (pks, pvs) => if pks.all isTK && okLen pks.length then mkD true (dputs [] [] pks pvs).1 (dputs [] [] pks pvs).2 st else none
    | none => none) = _
  rw [pairsOf_eq]
  have ht : (akP rE D).all isTK = true := List.all_eq_true.mpr fun x hx => by
    obtain ⟨y, _, rfl⟩ := List.mem_map.mp hx
    exact rE.isTK_eq y.1
  have hk : okLen (akP rE D).length = true := okLen_iff.mpr (by rw [ak_len]; exact Nat.le_trans hz (okL (by decide)))
  show (if (akP rE D).all isTK && okLen (akP rE D).length then mkD true (dputs [] [] (akP rE D) (avP PV.int D)).1 (dputs [] [] (akP rE D) (avP PV.int D)).2 st else none) = _
  rw [ht, hk, if_pos (show (true && true) = true from rfl)]
  have e := dputs_eq (D := D) (A := []) nd
  rw [show dputs [] [] (akP rE D) (avP PV.int D) = (akP rE D, avP PV.int D) from e]
  unfold mkD
  rw [if_pos rfl]
  exact if_pos (dC_lb rE (D := D) (t := 0))
theorem aput_mem {r : List Int} {c : Int} : ∀ {D : List (List Int × Int)} {y : List Int × Int}, y ∈ aput r c D → y = (r, c) ∨ y ∈ D
  | [], y, h => by
    have h : y ∈ [(r, c)] := h
    exact .inl (List.mem_singleton.mp h)
  | x :: D, y, h => by
    have h : y ∈ (if x.1 = r then (x.1, c) :: D else x :: aput r c D) := h
    by_cases e : x.1 = r
    · rw [if_pos e] at h
      rcases List.mem_cons.mp h with h | h
      · rw [h, e]; exact .inl rfl
      · exact .inr (List.mem_cons_of_mem _ h)
    · rw [if_neg e] at h
      rcases List.mem_cons.mp h with h | h
      · rw [h]; exact .inr List.mem_cons_self
      · rcases aput_mem h with h | h
        · exact .inl h
        · exact .inr (List.mem_cons_of_mem _ h)
def negD (D : List (List Int × Int)) : List (List Int × Int) := D.map fun x => (x.1, -x.2)
theorem negD_keys (D : List (List Int × Int)) : (negD D).map (·.1) = D.map (·.1) := by
  unfold negD
  rw [List.map_map]
  rfl
theorem packet_wp {p l : Nat} {R0 R1 S : List (List Int)} {rows : List Row} {st : Sto} {Q : PV → Sto → Prop} (h : Pool p st) (hl : st.cs l = some (.lst (rows.map rowP))) (hlp : l ≠ p) (h0 : R0 ≠ []) (h1 : R1 ≠ []) (hS : S ≠ []) (hr : ∀ x ∈ rows, RowOk R0 R1 S x) (hz : rows.length ≤ 1000)
    (q : ∀ x st', RowOk R0 R1 S x → Dr p st st' → Q (rowP x) st') : wp (f_law_packet [.loc p, .lst [rowsL R0, rowsL R1], rowsL S, .loc l] st) Q := by
  have hllt := Sto.lt_of hl
  unfold f_law_packet
  refine wp_runF rfl ?_
  show wp (D_law_packet [some (.loc p), some (.lst [rowsL R0, rowsL R1]), some (rowsL S), some (.loc l), none, none, none, none, none, none, none] st) _
  unfold D_law_packet
  refine wp_seqK ?_
  intro K hK
  walk_at "go"
  refine draw_wp h (by decide) fun i s1 i0 i1 d1 => ?_
  refine wp_set (by rw [d1.nxt]) (lb_int _ _) ?_
  walk_at "go"
  walk_at "nk"
  clear hK
  have hi : i = 0 ∨ i = 1 := by omega
  obtain ⟨Ri, hRi, hRn, hRm⟩ : ∃ Ri : List (List Int), (∀ s : Sto, opIx (.lst [rowsL R0, rowsL R1]) (.int i) s = some (rowsL Ri, s)) ∧ Ri ≠ [] ∧ Ri = if i = 0 then R0 else R1 := by
    rcases hi with rfl | rfl
    · exact ⟨R0, fun s => rfl, h0, rfl⟩
    · exact ⟨R1, fun s => rfl, h1, rfl⟩
  refine wp_seqK ?_
  intro K hK
  walk_at "go"
  refine pick_wp (h.dr d1) (xs := S.map tT) (fun _ _ => rfl) (by rw [List.length_map]; exact List.length_pos_iff.mpr hS) (by intro x hx; obtain ⟨y, _, rfl⟩ := List.mem_map.mp hx; exact tT_lb) fun x s2 hx d2 => ?_
  obtain ⟨t, ht, rfl⟩ := List.mem_map.mp hx
  refine wp_set (by rw [d2.nxt]) tT_lb ?_
  walk_at "go"
  walk_at "nk"
  clear hK
  have dd := d1.trans d2
  clear d1 d2 hx
  have hl2 : s2.cs l = some (.lst (rows.map rowP)) := by rw [dd.get hlp]; exact hl
  refine wp_seqK ?_
  intro K hK
  refine wp_mb (wp_eq newD ?_)
  walk_at "go"
  walk_at "nk"
  clear hK
  have F0 : PL p s2.nxt s2 (s2.alloc (.dct [] [] 0)) (dC rE [] 0) := .new (h.dr dd) (dC_lb rE (D := []) (t := 0))
  refine wp_seqK ?_
  intro K hK
  walk_at "go"
  refine pick_wp F0.pool (xs := [.int 1, .int 2, .int 3, .int 0, .int 2]) (fun _ _ => rfl) (by decide) (by intro x hx; simp only [List.mem_cons, List.not_mem_nil, or_false] at hx; rcases hx with rfl | rfl | rfl | rfl | rfl <;> exact lb_int _ _) fun x s3 hx d3 => ?_
  obtain ⟨n, rfl, n3⟩ : ∃ n : Nat, x = .int (n : Int) ∧ n ≤ 3 := by
    simp only [List.mem_cons, List.not_mem_nil, or_false] at hx
    rcases hx with rfl | rfl | rfl | rfl | rfl
    · exact ⟨1, rfl, by decide⟩
    · exact ⟨2, rfl, by decide⟩
    · exact ⟨3, rfl, by decide⟩
    · exact ⟨0, rfl, by decide⟩
    · exact ⟨2, rfl, by decide⟩
  refine wp_set (by rw [d3.nxt]) (lb_int _ _) ?_
  replace F0 := F0.dr d3
  clear d3 hx
  walk_at "go"
  refine wp_pos (okR (by omega)) ?_
  walk_at "go"
  refine forGo_wp (its := ⟨rng 0 (n : Int), none⟩) (fun k env s => ∃ (D : List (List Int × Int)) (tk : Nat) (u7 : Option PV), env = [some (.loc p), some (.lst [rowsL R0, rowsL R1]), some (rowsL S), some (.loc l), some (.int i), some (tT t), some (.loc s2.nxt), u7, none, none, none] ∧ PL p s2.nxt s2 s (dC rE D tk) ∧ (D.map (·.1)).Nodup ∧ D.length ≤ k ∧ ∀ y ∈ D, y.1 ∈ Ri ∧ y.2.natAbs < 2 ^ 130) _ (fun k x env s hx hI => ?_) (fun env s hI => ?_) ⟨[], 0, none, rfl, F0, List.nodup_nil, Nat.zero_le _, fun y z => (by cases z)⟩
  · clear F0
    obtain ⟨D, tk, u7, rfl, F, nd, dl, dm⟩ := hI
    obtain ⟨hk, rfl⟩ := rng_at hx
    refine ⟨Its.ok_none, wp_eq rfl ?_⟩
    walk_at "go"
    refine kcount_wp F.pool fun c s4 hc d4 => ?_
    refine wp_set (by rw [d4.nxt]) (lb_int _ _) ?_
    replace F := F.dr d4
    clear d4
    walk_at "go"
    refine wp_eq (hRi _) ?_
    walk_at "go"
    refine pick_wp F.pool (xs := Ri.map tT) (fun _ _ => rfl) (by rw [List.length_map]; exact List.length_pos_iff.mpr hRn) (by intro x hx; obtain ⟨y, _, rfl⟩ := List.mem_map.mp hx; exact tT_lb) fun x s5 hx d5 => ?_
    obtain ⟨r, hrm, rfl⟩ := List.mem_map.mp hx
    refine wp_set (by rw [d5.nxt]) tT_lb ?_
    replace F := F.dr d5
    clear d5
    walk_at "go"
    refine wp_setL (dC_set rE (k := r) F.at' (Nat.lt_of_le_of_lt (show D.length ≤ 1000 by omega) (by decide))) ?_
    walk_at "go"
    refine ⟨aput r c D, _, _, rfl, F.put (dC_lb rE), anodup_put _ _ _ nd, Nat.le_trans (aput_len _ _ _) (by omega), fun y hy => ?_⟩
    rcases aput_mem hy with rfl | hy
    · exact ⟨hrm, hc⟩
    · exact dm y hy
  clear F0
  obtain ⟨D, tk, u7, rfl, F, nd, dl, dm⟩ := hI
  have dl : D.length ≤ n := by rw [show (Its.mk (rng 0 (n : Int)) none).items.length = n from rng_len] at dl; exact dl
  refine ⟨Its.ok_none, ?_⟩
  walk_at "nk"
  clear hK
  refine wp_seqK ?_
  intro K hK
  have hl3 := drx_get F.drx hl2 hlp
  have e8 : dLc false [9] (iSeq (dVar 3)) (gName 9) (tVal (dBin (cmpEq false) (dBin opIx (dVar 9) (dCst (.int 0))) (dVar 4))) (dVar 9) [some (.loc p), some (.lst [rowsL R0, rowsL R1]), some (rowsL S), some (.loc l), some (.int i), some (tT t), some (.loc s2.nxt), u7, none, none, none] s = some (.lst ((rows.filter fun x => x.1 == i).map rowP), s) := by
    have e1 : iSeq (dVar 3) [some (.loc p), some (.lst [rowsL R0, rowsL R1]), some (rowsL S), some (.loc l), some (.int i), some (tT t), some (.loc s2.nxt), u7, none, none, none] s = some (⟨rows.map rowP, some (l, .lst (rows.map rowP))⟩, s) := by
      show (match s.cs l with | some (.lst xs) => some (Its.mk xs (some (l, .lst xs)), s) | some (.dct ks vs t) => some (Its.mk ks (some (l, .dct ks vs t)), s) | _ => none) = _
      rw [hl3]
    unfold dLc
    rw [e1, mb_some]
    have e2 := lcGo_filter (its := ⟨rows.map rowP, some (l, .lst (rows.map rowP))⟩) (g := gName 9) (t := tVal (dBin (cmpEq false) (dBin opIx (dVar 9) (dCst (.int 0))) (dVar 4))) (e := dVar 9) (env := [some (.loc p), some (.lst [rowsL R0, rowsL R1]), some (rowsL S), some (.loc l), some (.int i), some (tT t), some (.loc s2.nxt), u7, none, none, none]) (st := s) (fun x => match x with | .tup (.int j :: _) => j == i | _ => false) (fun x => x) hl3 (fun x hx => by
      obtain ⟨y, hy, rfl⟩ := List.mem_map.mp hx
      refine ⟨_, rfl, ?_, fun _ => rfl⟩
      refine eq_of_wp ?_
      walk_at "go"
      rw [eqv_int]
      first | exact ⟨show ((y.1 == i) != false) = (y.1 == i) from Bool.bne_false _, rfl⟩ | exact wp_ret ⟨show ((y.1 == i) != false) = (y.1 == i) from Bool.bne_false _, rfl⟩)
    have e3 : ((rows.map rowP).filter fun x => match x with | .tup (.int j :: _) => j == i | _ => false).map (fun x => x) = (rows.filter fun x => x.1 == i).map rowP := by
      rw [List.map_id', List.filter_map]
      rfl
    have e2 := e2.trans (congrArg (fun z => some (z, s)) e3)
    refine Eq.trans (congrArg (fun z => mb z _) e2) ?_
    rw [mb_some]
    exact mkV_eq (okL (by rw [List.length_map]; exact Nat.le_trans (List.length_filter_le _ _) (by omega)))
  refine wp_mb (wp_eq e8 ?_)
  walk_at "go"
  walk_at "nk"
  clear hK e8
  have hE : ∀ x ∈ rows.filter (fun x => x.1 == i), RowOk R0 R1 S x ∧ x.1 = i := fun x hx => by
    obtain ⟨h1, h2⟩ := List.mem_filter.mp hx
    exact ⟨hr x h1, by simpa using h2⟩
  generalize hEe : rows.filter (fun x => x.1 == i) = E at hE
  have base : RowOk R0 R1 S (i, D, t) := ⟨hi, nd, by show D.length ≤ 3; omega, fun y hy => by rw [← hRm]; exact dm y hy, ht⟩
  refine wp_seqK ?_
  intro K hK
  refine wp_mono (R := fun f s => ∃ (ql : Nat) (D : List (List Int × Int)) (tk : Nat) (t : List Int) (u7 u8 u9 : Option PV), f = .nx [some (.loc p), some (.lst [rowsL R0, rowsL R1]), some (rowsL S), some (.loc l), some (.int i), some (tT t), some (.loc ql), u7, u8, u9, none] ∧ PL p ql s2 s (dC rE D tk) ∧ RowOk R0 R1 S (i, D, t)) ?_ fun f s6 hR => ?_
  · walk_at "go"
    rw [List.length_map]
    refine wp_if (fun hr => ?_) (fun hr => ?_)
    · have hE0 : 0 < E.length := by
        have : (0 : Int) < (E.length : Int) := by simpa using hr
        omega
      walk_at "go"
      refine draw_wp F.pool (by decide) fun r s3 r0 r1 d3 => ?_
      refine wp_set (by rw [d3.nxt]) (lb_int _ _) ?_
      replace F := F.dr d3
      clear d3
      walk_at "go"
      rw [eqv_int]
      refine wp_if (fun hr2 => ?_) (fun hr2 => ?_)
      · refine wp_seqK ?_
        intro K2 hK2
        walk_at "go"
        refine pick_wp F.pool (xs := E.map rowP) (fun _ _ => rfl) (by rw [List.length_map]; exact hE0) (by intro x hx; obtain ⟨y, _, rfl⟩ := List.mem_map.mp hx; exact rowP_lb) fun x s4 hx d4 => ?_
        obtain ⟨y, hy, rfl⟩ := List.mem_map.mp hx
        obtain ⟨yo, yi⟩ := hE y hy
        refine wp_set (by rw [d4.nxt]) rowP_lb ?_
        replace F := F.dr d4
        clear d4
        walk_at "go"
        walk_at "nk"
        clear hK2
        refine wp_seqK ?_
        intro K2 hK2
        walk_at "go"
        refine wp_eq (lc_items (its := ⟨akP rE y.2.1, none⟩) ((negD y.2.1).map entP) Its.ok_none (by unfold negD; rw [List.length_map, List.length_map]; exact (ak_len _ _).symm) (fun k x hx => ?_)) ?_
        · have hx : (y.2.1.map fun x => rE.p x.1)[k]? = some x := hx
          obtain ⟨z, hz, hm, rfl⟩ := get_map hx
          have hg := (tb_get (f := fun _ => 0) yo.nd).mpr (show (z.1, z.2) ∈ y.2.1 from hm)
          refine ⟨_, entP (z.1, -z.2), rfl, by unfold negD; rw [List.getElem?_map, List.getElem?_map, hz]; rfl, eq_of_wp ?_⟩
          walk_at "go"
          refine wp_eq (dctv_ix hg) ?_
          walk_at "go"
          first | exact ⟨rfl, rfl⟩ | exact wp_ret ⟨rfl, rfl⟩
        have hyl := yo.len
        have hnl : (negD y.2.1).length ≤ 3 := by unfold negD; rw [List.length_map]; exact hyl
        refine wp_eq (mkV_eq (okL (by rw [List.length_map]; omega))) ?_
        walk_at "go"
        refine wp_eq (bDictM_eq (D := negD y.2.1) (by rw [negD_keys]; exact yo.nd) (by omega)) ?_
        walk_at "go"
        walk_at "nk"
        clear hK2
        have G : PL p s4.nxt s2 (s4.alloc (dC rE (negD y.2.1) 0)) (dC rE (negD y.2.1) 0) := ⟨F.pool.alloc, F.drx.alloc, Sto.alloc_get (dC_lb rE), F.drx.1, F.hp⟩
        walk_at "go"
        refine pick_wp G.pool (xs := [tT t, tT y.2.2]) (fun _ _ => rfl) (by show 0 < 2; decide) (by intro x hx; simp only [List.mem_cons, List.not_mem_nil, or_false] at hx; rcases hx with rfl | rfl <;> exact tT_lb) fun x s5 hx d5 => ?_
        obtain ⟨t', rfl, ht'⟩ : ∃ t', x = tT t' ∧ t' ∈ S := by
          simp only [List.mem_cons, List.not_mem_nil, or_false] at hx
          rcases hx with rfl | rfl
          · exact ⟨t, rfl, ht⟩
          · exact ⟨_, rfl, yo.tm⟩
        refine wp_set (by rw [d5.nxt]) tT_lb ?_
        replace G := G.dr d5
        walk_at "go"
        refine ⟨_, _, _, t', _, _, _, rfl, G, ⟨hi, by rw [negD_keys]; exact yo.nd, hnl, fun w hw => ?_, ht'⟩⟩
        obtain ⟨z, hz, rfl⟩ := List.mem_map.mp hw
        have := yo.rc z hz
        rw [yi] at this
        exact ⟨this.1, by show (-z.2).natAbs < _; rw [Int.natAbs_neg]; exact this.2⟩
      · walk_at "go"
        exact ⟨_, _, _, t, _, _, _, rfl, F, base⟩
    · walk_at "go"
      exact ⟨_, _, _, t, _, _, _, rfl, F, base⟩
  · obtain ⟨ql, D, tk, t, u7, u8, u9, rfl, F, ok⟩ := hR
    walk_at "nk"
    walk_at "go"
    refine wp_eq (frz_eq F.at') ?_
    walk_at "go"
    refine wp_eq (fin_val (v := rowP (i, D, t)) rowP_lb) ?_
    have e : (s6.kill ql).restr st.nxt = s6.restr s2.nxt := by
      rw [← dd.nxt, Sto.restr_kill_ge F.hl]
    rw [e]
    exact q (i, D, t) _ ok (dd.trans F.drx.2)
end DL

namespace DL
open PySem L2
local macro_rules | `(tactic| walk_at "go") => `(tactic| repeat (first | refine wp_mb ?_ | with_reducible refine wp_mul (by first | assumption | (exact okMul_iff.mpr (by omega))) ?_ | with_reducible refine wp_mod (by first | assumption | (exact okMod_iff.mpr (by omega))) ?_ | with_reducible refine wp_div (by first | assumption | (exact okDiv_iff.mpr (by omega))) ?_ | with_reducible refine wp_pow (by first | assumption | (exact okPow_iff.mpr (by decide))) ?_ | ((with_reducible refine wp_set ?_ ?_ ?_); (focus rfl); (focus first | exact tT_lb | exact lb_int _ _ | exact lb_bl _ _ | exact lb_non _ | assumption)) | refine wp_eq rfl ?_))
local macro_rules | `(tactic| walk_at "st") => `(tactic| ((first | (refine wp_seqK ?_; intro K hK) | skip); walk_at "go"))
local macro_rules | `(tactic| walk_at "nx") => `(tactic| ((try dsimp only [List.set_cons_zero, List.set_cons_succ]); refine wp_nx (by assumption) ?_; walk_at "st"))
local macro_rules | `(tactic| walk_at "nk") => `(tactic| ((try dsimp only [List.set_cons_zero, List.set_cons_succ]); refine wp_nx (by assumption) ?_))
/-! W19 of k28: the plain law's last part -/
theorem firstIx_mem {t : List Int} : ∀ {S : List (List Int)} {b : Nat}, t ∈ S → ∃ k, firstIx (.tuple (t.map PyData.int)) (S.map fun a => PyData.tuple (a.map PyData.int)) b = some (b + k) ∧ S[k]? = some t
  | [], b, h => by cases h
  | x :: S, b, h => by
    rw [List.map_cons, firstIx, eqv_tT]
    by_cases e : x = t
    · rw [if_pos (decide_eq_true e)]
      exact ⟨0, rfl, by rw [e]; rfl⟩
    · rw [if_neg (by rw [decide_eq_false e]; decide)]
      obtain ⟨k, h1, h2⟩ := firstIx_mem (S := S) (b := b + 1) ((List.mem_cons.mp h).resolve_left fun z => e z.symm)
      exact ⟨k + 1, by rw [h1]; congr 1; omega, h2⟩
theorem index_eq {o a : DE} {env : Env} {st : Sto} {t : List Int} {S : List (List Int)} (h0 : o env st = some (rowsL S, st)) (h1 : a env st = some (tT t, st)) (ht : t ∈ S) : ∃ k : Nat, S[k]? = some t ∧ dIndex o a env st = some (.int (k : Int), st) := by
  obtain ⟨k, e, hk⟩ := firstIx_mem (b := 0) ht
  refine ⟨k, hk, ?_⟩
  unfold dIndex
  rw [h0, mb_some]
  show mb (a env st) _ = _
  rw [h1, mb_some]
  show (match toDs st.cs (S.map tT), (tT t).toD st.cs with
      | some ds, some d => if SeqAt.shaped (.list ds) && SeqAt.shaped d then (firstIx d ds 0).map fun k => (PV.int (k : Int), st) else none
      | _, _ => none) = _
  rw [toDs_rows, toD_tT]
  show (if SeqAt.shaped (.list (S.map fun a => PyData.tuple (a.map PyData.int))) && SeqAt.shaped (.tuple (t.map PyData.int)) then (firstIx (.tuple (t.map PyData.int)) (S.map fun a => PyData.tuple (a.map PyData.int)) 0).map fun k => (PV.int (k : Int), st) else none) = _
  rw [shaped_rows, shaped_tT, e, Nat.zero_add]
  rfl
theorem tot_lst1 {f : List Int → Int} {D : List (List Int × Int)} {t : List Int} (h : Tb f D) (k : Key) : tot (lst1 t D) k = if t = k.1 then f k.2 else 0 := by
  have e : lst1 t D = (rE.sort (D.map (·.1))).map fun r => (r, t, f r) := by
    unfold lst1
    exact List.map_congr_left fun r _ => by rw [h.val]
  rw [e]
  unfold tot wt
  rw [List.map_map]
  by_cases ht : t = k.1
  · rw [if_pos ht]
    have hv : ∀ r : List Int, r ≠ k.2 → f r * kInd k r t = 0 := fun r hr => by
      unfold kInd
      rw [decide_eq_false hr, Bool.and_false]
      exact Int.mul_zero _
    by_cases hk : k.2 ∈ rE.sort (D.map (·.1))
    · refine (sum_one (fun r => f r * kInd k r t) k.2 ((rE.sort_perm _).nodup_iff.mpr h.nd) hk (fun r _ hr => hv r hr)).trans ?_
      show f k.2 * kInd k k.2 t = _
      unfold kInd
      rw [decide_eq_true ht, decide_eq_true rfl]
      exact Int.mul_one _
    · have z : f k.2 = 0 := h.none.mp (by
        cases e : aget k.2 D with
        | none => rfl
        | some c => exact absurd (rE.sort_mem.mpr (aget_mem.mp (by rw [e]; rfl))) hk)
      rw [z]
      exact sum_zero (fun r => f r * kInd k r t) fun r hr => hv r fun e => hk (e ▸ hr)
  · rw [if_neg ht]
    refine sum_zero (fun r => f r * kInd k r t) fun r _ => ?_
    unfold kInd
    show _ * ind _ = 0
    rw [decide_eq_false ht, Bool.false_and]
    exact Int.mul_zero _
theorem tot_lstd_set {f g : List Int → Int} {D E : List (List Int × Int)} (hD : Tb f D) (hE : Tb g E) (key : Key) : ∀ {S : List (List Int)} {Ds : List (List (List Int × Int))} {k : Nat} {t : List Int}, S[k]? = some t → Ds[k]? = some D → tot (lstd S (Ds.set k E)) key = tot (lstd S Ds) key + if t = key.1 then g key.2 - f key.2 else 0
  | [], _, _, _, h, _ => by cases h
  | _ :: _, [], _, _, _, h => by cases h
  | x :: S, A :: Ds, 0, t, h1, h2 => by
    cases h1; cases h2
    show tot (lst1 x E ++ lstd S Ds) key = tot (lst1 x D ++ lstd S Ds) key + _
    rw [tot_app, tot_app, tot_lst1 hD, tot_lst1 hE]
    split <;> omega
  | x :: S, A :: Ds, k + 1, t, h1, h2 => by
    show tot (lst1 x A ++ lstd S (Ds.set k E)) key = tot (lst1 x A ++ lstd S Ds) key + _
    rw [tot_app, tot_app, tot_lstd_set hD hE key (S := S) (Ds := Ds) (k := k) h1 h2]
    omega
theorem lstd_set_len {D E : List (List Int × Int)} : ∀ {S : List (List Int)} {Ds : List (List (List Int × Int))} {k : Nat} {t : List Int}, S[k]? = some t → Ds[k]? = some D → (lstd S (Ds.set k E)).length + D.length = (lstd S Ds).length + E.length
  | [], _, _, _, h, _ => by cases h
  | _ :: _, [], _, _, _, h => by cases h
  | x :: S, A :: Ds, 0, t, h1, h2 => by
    cases h1; cases h2
    show (lst1 x E ++ lstd S Ds).length + D.length = (lst1 x D ++ lstd S Ds).length + E.length
    rw [List.length_append, List.length_append, lst1_len, lst1_len]
    omega
  | x :: S, A :: Ds, k + 1, t, h1, h2 => by
    have ih := lstd_set_len (E := E) (S := S) (Ds := Ds) (k := k) h1 h2
    show (lst1 x A ++ lstd S (Ds.set k E)).length + D.length = (lst1 x A ++ lstd S Ds).length + E.length
    rw [List.length_append, List.length_append]
    omega
theorem lstd_mem : ∀ {S : List (List Int)} {Ds : List (List (List Int × Int))} {x : Chg}, x ∈ lstd S Ds → x.2.1 ∈ S ∧ ∃ D ∈ Ds, ∃ c, aget x.1 D = some c ∧ x.2.2 = c
  | [], _, x, h => by cases h
  | _ :: _, [], x, h => by cases h
  | t :: S, D :: Ds, x, h => by
    rcases List.mem_append.mp (show x ∈ lst1 t D ++ lstd S Ds from h) with h | h
    · obtain ⟨r, hr, rfl⟩ := List.mem_map.mp h
      have hm := aget_mem.mpr (rE.sort_mem.mp hr)
      refine ⟨List.mem_cons_self, D, List.mem_cons_self, ?_⟩
      cases e : aget r D with
      | none => rw [e] at hm; cases hm
      | some c => exact ⟨c, rfl, rfl⟩
    · obtain ⟨h1, D', h2, h3⟩ := lstd_mem h
      exact ⟨List.mem_cons_of_mem _ h1, D', List.mem_cons_of_mem _ h2, h3⟩
theorem lstd_le {D : List (List Int × Int)} : ∀ {S : List (List Int)} {Ds : List (List (List Int × Int))}, Ds.length = S.length → D ∈ Ds → D.length ≤ (lstd S Ds).length
  | [], Ds, h, hm => by rw [List.length_eq_zero_iff.mp h] at hm; cases hm
  | _ :: _, [], _, hm => by cases hm
  | t :: S, E :: Ds, h, hm => by
    show _ ≤ (lst1 t E ++ lstd S Ds).length
    rw [List.length_append, lst1_len]
    rcases List.mem_cons.mp hm with rfl | hm
    · omega
    · have := lstd_le (S := S) (Ds := Ds) (by simpa using h) hm
      omega
/-- a table of few records of one width, counts not too large -/
structure Bdd (w cnt : Nat) (D : List (List Int × Int)) : Prop where
  len : D.length ≤ cnt
  rc : ∀ x ∈ D, x.1.length = w ∧ x.2.natAbs ≤ cnt * 2 ^ 130
theorem Bdd.nil {w cnt : Nat} : Bdd w cnt [] := ⟨Nat.zero_le _, fun x h => (by cases h)⟩
theorem Bdd.mono {w cnt m : Nat} {D : List (List Int × Int)} (h : Bdd w cnt D) (hm : cnt ≤ m) : Bdd w m D := ⟨Nat.le_trans h.len hm, fun x hx => ⟨(h.rc x hx).1, Nat.le_trans (h.rc x hx).2 (Nat.mul_le_mul_right _ hm)⟩⟩
theorem aget_in2 {r : List Int} {c : Int} : ∀ {D : List (List Int × Int)}, aget r D = some c → (r, c) ∈ D
  | [], h => by cases h
  | x :: D, h => by
    have h : (if x.1 = r then some x.2 else aget r D) = some c := h
    by_cases e : x.1 = r
    · rw [if_pos e] at h
      cases h
      rw [← e]
      exact List.mem_cons_self
    · rw [if_neg e] at h
      exact List.mem_cons_of_mem _ (aget_in2 h)
theorem Bdd.add {w cnt : Nat} {D : List (List Int × Int)} {r : List Int} {c : Int} (h : Bdd w cnt D) (hr : r.length = w) (hc : c.natAbs < 2 ^ 130) : Bdd w (cnt + 1) (tadd D r c) := by
  refine ⟨Nat.le_trans (tadd_len _ _ _) (Nat.succ_le_succ h.len), fun y hy => ?_⟩
  have hy : y ∈ aput r ((aget r D).getD 0 + c) D := by
    unfold tadd arem at hy
    split at hy
    · exact (List.mem_filter.mp hy).1
    · exact hy
  rcases aput_mem hy with rfl | hy
  · refine ⟨hr, ?_⟩
    have h1 : ((aget r D).getD 0).natAbs ≤ cnt * 2 ^ 130 := by
      cases e : aget r D with
      | none => exact Nat.zero_le _
      | some a => exact (h.rc _ (aget_in2 e)).2
    show ((aget r D).getD 0 + c).natAbs ≤ (cnt + 1) * 2 ^ 130
    have := Int.natAbs_add_le ((aget r D).getD 0) c
    rw [Nat.succ_mul]
    omega
  · exact (h.mono (Nat.le_succ _)).rc y hy
theorem bnd_pow {cnt n : Nat} (h : cnt ≤ 100) (hn : n ≤ cnt * 2 ^ 130) : n < 2 ^ 1000 := by
  have h1 : cnt * 2 ^ 130 ≤ 100 * 2 ^ 130 := Nat.mul_le_mul_right _ h
  have h2 : 100 * 2 ^ 130 < 2 ^ 1000 := by decide +kernel
  omega
theorem Bdd.ok {w cnt : Nat} {D : List (List Int × Int)} (h : Bdd w cnt D) (hc : cnt ≤ 100) (nd : (D.map (·.1)).Nodup) : TbOk w D := ⟨nd, Nat.le_trans h.len hc, fun x hx => ⟨(h.rc x hx).1, bnd_pow hc (h.rc x hx).2⟩⟩
/-- what one side has brought, time by time -/
structure Br (S : List (List Int)) (w cnt : Nat) (Ds : List (List (List Int × Int))) (A : List Chg) : Prop where
  len : Ds.length = S.length
  tb : ∀ D ∈ Ds, ∃ f, Tb f D
  tot : ∀ key, DL.tot (lstd S Ds) key = DL.tot A key
  ok : ∀ D ∈ Ds, Bdd w cnt D
  sz : (lstd S Ds).length ≤ cnt
theorem Br.mono {S : List (List Int)} {w cnt m : Nat} {Ds : List (List (List Int × Int))} {A : List Chg} (h : Br S w cnt Ds A) (hm : cnt ≤ m) : Br S w m Ds A := ⟨h.len, h.tb, h.tot, fun D hD => (h.ok D hD).mono hm, Nat.le_trans h.sz hm⟩
theorem Br.add {S : List (List Int)} {w cnt k : Nat} {Ds : List (List (List Int × Int))} {A : List Chg} {D : List (List Int × Int)} {t r : List Int} {c : Int} (h : Br S w cnt Ds A) (hs : S[k]? = some t) (hd : Ds[k]? = some D) (hr : r.length = w) (hc : c.natAbs < 2 ^ 130) : Br S w (cnt + 1) (Ds.set k (tadd D r c)) (A ++ [(r, t, c)]) := by
  have hDm := List.mem_of_getElem? hd
  obtain ⟨f, hf⟩ := h.tb D hDm
  have hadd := hf.add r c
  have hl := lstd_set_len (E := tadd D r c) hs hd
  have ht := tadd_len D r c
  have hsz := h.sz
  refine ⟨by rw [List.length_set]; exact h.len, fun E hE => ?_, fun key => ?_, fun E hE => ?_, by omega⟩
  · rcases List.mem_or_eq_of_mem_set hE with hE | rfl
    · exact h.tb E hE
    · exact ⟨_, hadd⟩
  · rw [tot_lstd_set hf hadd key hs hd, h.tot, tot_app, tot_cons]
    show _ + _ = _ + ((if keyOf (r, t, c) = key then c else 0) + 0)
    congr 1
    rw [Int.add_zero]
    show _ = if (t, r) = key then c else 0
    by_cases e1 : t = key.1
    · rw [if_pos e1]
      by_cases e2 : key.2 = r
      · rw [if_pos e2, if_pos (show (t, r) = key by rw [e1, ← e2])]
        omega
      · rw [if_neg e2, if_neg (fun z => e2 (by rw [← z]))]
        omega
    · rw [if_neg e1, if_neg (fun z => e1 (by rw [← z]))]
  · rcases List.mem_or_eq_of_mem_set hE with hE | rfl
    · exact (h.ok E hE).mono (Nat.le_succ _)
    · exact (h.ok D hDm).add hr hc
theorem Br.chok {S : List (List Int)} {w cnt n : Nat} {Ds : List (List (List Int × Int))} {A : List Chg} (h : Br S w cnt Ds A) (hn : ∀ t ∈ S, t.length = n) (hc : cnt ≤ 100) : ∀ x ∈ lstd S Ds, ChOk w n x := fun x hx => by
  obtain ⟨h1, D, hD, c, h2, h3⟩ := lstd_mem hx
  have := (h.ok D hD).rc _ (aget_in2 h2)
  refine ⟨this.1, hn _ h1, ?_⟩
  rw [h3]
  exact bnd_pow hc this.2
/-! one more change, as of a time -/
theorem bag_snoc (A : List Chg) (x : Chg) (q r : List Int) : bag (A ++ [x]) q r = bag A q r + if leqB x.2.1 q = true ∧ x.1 = r then x.2.2 else 0 := by
  unfold bag
  rw [wt_app]
  congr 1
  have := bag_cons x [] q r
  unfold bag at this
  rw [this, wt_nil, Int.add_zero]
theorem bag_brt_no {D : List (List Int × Int)} {t q : List Int} (h : leqB t q = false) (A : List Chg) (r : List Int) : bag (A ++ brt D t) q r = bag A q r := by
  unfold bag
  rw [wt_app]
  have : wt (bagG q r) (brt D t) = 0 := by
    unfold wt brt
    rw [List.map_map]
    refine sum_zero (fun x : List Int × Int => x.2 * bagG q r x.1 t) fun x _ => ?_
    unfold bagG
    rw [h, Bool.false_and]
    exact Int.mul_zero _
  rw [this, Int.add_zero]
theorem Tb.snoc {A : List Chg} {q : List Int} {D : List (List Int × Int)} {x : Chg} (h : Tb (bag A q) D) (hx : leqB x.2.1 q = true) : Tb (bag (A ++ [x]) q) (tadd D x.1 x.2.2) := (h.add x.1 x.2.2).congr fun r => by
  rw [bag_snoc]
  congr 1
  by_cases e : r = x.1
  · rw [if_pos e, if_pos ⟨hx, e.symm⟩]
  · rw [if_neg e, if_neg fun z => e z.2.symm]
theorem Tb.told {f : List Int → Int} {A : List Chg} {q : List Int} {D : List (List Int × Int)} {x : Chg} (h : Tb (fun z => f z + bag A q z) D) (hx : leqB x.2.1 q = true) : Tb (fun z => f z + bag (A ++ [x]) q z) (tadd D x.1 x.2.2) := (h.add x.1 x.2.2).congr fun r => by
  rw [bag_snoc, Int.add_assoc]
  congr 2
  by_cases e : r = x.1
  · rw [if_pos e, if_pos ⟨hx, e.symm⟩]
  · rw [if_neg e, if_neg fun z => e z.2.symm]
theorem told_no {A : List Chg} {q : List Int} {x : Chg} (hx : leqB x.2.1 q = false) (z : List Int) : bag (A ++ [x]) q z = bag A q z := by
  rw [bag_snoc, if_neg (fun e => by rw [hx] at e; cases e.1), Int.add_zero]
/-! what is told lies among the marks -/
theorem lub_mk {Mk : List (List Int)} {a b : List Int} (ha : InMk Mk a) (hb : InMk Mk b) : InMk Mk (lubL a b) := by
  have hl := ha.1.trans hb.1.symm
  refine ⟨by rw [lubL_len hl]; exact ha.1, fun c hc => ?_⟩
  have h1 := ha.2 c hc
  have h2 := hb.2 c hc
  have ca : c < a.length := by rw [ha.1]; exact hc
  have cb : c < b.length := by rw [hb.1]; exact hc
  have e : (lubL a b).getD c 0 = max (a.getD c 0) (b.getD c 0) := by
    unfold lubL
    rw [getD_at (by rw [List.length_zipWith]; omega), getD_at ca, getD_at cb, List.getElem_zipWith]
  rw [e]
  rcases Int.le_total (a.getD c 0) (b.getD c 0) with h | h
  · rw [Int.max_eq_right h]; exact h2
  · rw [Int.max_eq_left h]; exact h1
theorem pairL_mem {km : List Int → List Int → Bool} {im : List Int → List Int → List Int} {L R : List Chg} {z : Chg} (h : z ∈ pairL km im L R) : ∃ x ∈ L, ∃ y ∈ R, z = (im x.1 y.1, lubL x.2.1 y.2.1, x.2.2 * y.2.2) := by
  obtain ⟨x, hx, h⟩ := List.mem_flatMap.mp h
  obtain ⟨y, hy, rfl⟩ := List.mem_map.mp h
  exact ⟨x, hx, y, (List.mem_filter.mp hy).1, rfl⟩
theorem canon_at {L : List Chg} {x : Chg} (h : x ∈ canon L) : x.2.2 ≠ 0 ∧ ∃ y ∈ L, y.1 = x.1 ∧ y.2.1 = x.2.1 := by
  obtain ⟨h1, h2⟩ := canon_mem.mp h
  refine ⟨h2, ?_⟩
  have hk := canon_supp (L := L) (k := keyOf x) (by rw [← h1]; exact h2)
  rw [kE.sort_mem, uq_mem] at hk
  obtain ⟨y, hy, e⟩ := List.mem_map.mp hk
  exact ⟨y, hy, congrArg (fun k : Key => k.2) e, congrArg (fun k : Key => k.1) e⟩
theorem canon_keys (L : List Chg) : Srt kE ((canon L).map keyOf) := by
  have e : (canon L).map keyOf = (kE.sort (uq (L.map keyOf))).filter fun k => decide (tot L k ≠ 0) := by
    unfold canon canonK
    rw [List.map_map]
    have : (keyOf ∘ mkC (tot L)) = id := rfl
    rw [this, List.map_id]
  rw [e]
  exact (Srt.of (uq_nodup _)).filter _
theorem told_ok {Mk : List (List Int)} {Tm : List (Sd × Nat)} {km : List Int → List Int → Bool} {L R : List Chg} (hL : ∀ x ∈ L, InMk Mk x.2.1) (hR : ∀ x ∈ R, InMk Mk x.2.1) : ∀ x ∈ canon (pairL km (imOf Tm) L R), x.1.length = Tm.length ∧ InMk Mk x.2.1 ∧ x.2.2 ≠ 0 := fun z hz => by
  obtain ⟨h1, w, hw, e1, e2⟩ := canon_at hz
  obtain ⟨x, hx, y, hy, rfl⟩ := pairL_mem hw
  refine ⟨?_, ?_, h1⟩
  · rw [← e1]
    exact List.length_map _
  · rw [← e2]
    exact lub_mk (hL x hx) (hR y hy)
end DL

namespace DL
open PySem L2
local macro_rules | `(tactic| walk_at "go") => `(tactic| repeat (first | refine wp_mb ?_ | with_reducible refine wp_mul (by first | assumption | (exact okMul_iff.mpr (by omega))) ?_ | with_reducible refine wp_mod (by first | assumption | (exact okMod_iff.mpr (by omega))) ?_ | with_reducible refine wp_div (by first | assumption | (exact okDiv_iff.mpr (by omega))) ?_ | with_reducible refine wp_pow (by first | assumption | (exact okPow_iff.mpr (by decide))) ?_ | ((with_reducible refine wp_set ?_ ?_ ?_); (focus rfl); (focus first | exact tT_lb | exact lb_int _ _ | exact lb_bl _ _ | exact lb_non _ | assumption)) | refine wp_eq rfl ?_))
local macro_rules | `(tactic| walk_at "st") => `(tactic| ((first | (refine wp_seqK ?_; intro K hK) | skip); walk_at "go"))
local macro_rules | `(tactic| walk_at "nx") => `(tactic| ((try dsimp only [List.set_cons_zero, List.set_cons_succ]); refine wp_nx (by assumption) ?_; walk_at "st"))
local macro_rules | `(tactic| walk_at "nk") => `(tactic| ((try dsimp only [List.set_cons_zero, List.set_cons_succ]); refine wp_nx (by assumption) ?_))
/-! W20 of k28: the store of the law -/
abbrev Tab := List (List Int × Int)
def gset (G : Nat → Tab) (i : Nat) (D : Tab) : Nat → Tab := fun j => if j = i then D else G j
theorem gset_at {G : Nat → Tab} {i : Nat} {D : Tab} : gset G i D i = D := if_pos rfl
theorem gset_ne {G : Nat → Tab} {i j : Nat} {D : Tab} (h : j ≠ i) : gset G i D j = G j := if_neg h
theorem gset_self {G : Nat → Tab} {i : Nat} : gset G i (G i) = G := funext fun j => by
  unfold gset
  by_cases e : j = i
  · rw [if_pos e, e]
  · rw [if_neg e]
theorem gset_gset {G : Nat → Tab} {i : Nat} {D E : Tab} : gset (gset G i D) i E = gset G i E := funext fun j => by
  unfold gset
  by_cases e : j = i
  · rw [if_pos e, if_pos e]
  · rw [if_neg e, if_neg e, if_neg e]
structure Mem (p b m : Nat) (G : Nat → Tab) (rows : List Row) (s : Sto) : Prop where
  pool : Pool p s
  bk : ∀ i, i < m → ∃ t, s.cs (b + i) = some (dC rE (G i) t)
  row : s.cs (b + m) = some (.lst (rows.map rowP))
  hp : p < b
namespace Mem
variable {p b m i : Nat} {G : Nat → Tab} {rows : List Row} {s s' : Sto} {D : Tab} {x : Row}
theorem dr (h : Mem p b m G rows s) (d : Dr p s s') : Mem p b m G rows s' := by
  have hp := h.hp
  refine ⟨h.pool.dr d, fun i hi => ?_, ?_, hp⟩
  · obtain ⟨t, e⟩ := h.bk i hi
    exact ⟨t, by rw [d.get (by omega)]; exact e⟩
  · rw [d.get (by omega)]; exact h.row
theorem add (h : Mem p b m G rows s) (hi : i < m) (t : Nat) : Mem p b m (gset G i D) rows (s.set (b + i) (dC rE D t)) := by
  have hp := h.hp
  refine ⟨h.pool.set (by omega), fun j hj => ?_, ?_, hp⟩
  · by_cases e : j = i
    · subst e
      obtain ⟨t0, e0⟩ := h.bk j hj
      exact ⟨t, by rw [gset_at]; exact Sto.set_get e0 (dC_lb rE)⟩
    · obtain ⟨t0, e0⟩ := h.bk j hj
      exact ⟨t0, by rw [gset_ne e, Sto.set_ne (by omega)]; exact e0⟩
  · rw [Sto.set_ne (by omega)]; exact h.row
theorem push (h : Mem p b m G rows s) : Mem p b m G (rows ++ [x]) (s.set (b + m) (.lst (rows.map rowP ++ [rowP x]))) := by
  have hp := h.hp
  have e : rows.map rowP ++ [rowP x] = (rows ++ [x]).map rowP := by rw [List.map_append]; rfl
  rw [e]
  refine ⟨h.pool.set (by omega), fun j hj => ?_, Sto.set_get h.row rowsP_lb, hp⟩
  obtain ⟨t0, e0⟩ := h.bk j hj
  exact ⟨t0, by rw [Sto.set_ne (by omega)]; exact e0⟩
end Mem
def locs (b n : Nat) : List PV := (List.range n).map fun k => PV.loc (b + k)
def tabs (G : Nat → Tab) (o n : Nat) : List Tab := (List.range n).map fun k => G (o + k)
theorem locs_len {b n : Nat} : (locs b n).length = n := by unfold locs; rw [List.length_map, List.length_range]
theorem tabs_len {G : Nat → Tab} {o n : Nat} : (tabs G o n).length = n := by unfold tabs; rw [List.length_map, List.length_range]
theorem locs_get {b o n k : Nat} (h : k < n) : (locs (b + o) n)[k]? = some (.loc (b + (o + k))) := by
  unfold locs
  rw [List.getElem?_map, List.getElem?_range h, ← Nat.add_assoc]
  rfl
theorem tabs_get {G : Nat → Tab} {o n k : Nat} (h : k < n) : (tabs G o n)[k]? = some (G (o + k)) := by
  unfold tabs
  rw [List.getElem?_map, List.getElem?_range h]
  rfl
theorem tabs_congr {G G' : Nat → Tab} {o n : Nat} (h : ∀ k, k < n → G (o + k) = G' (o + k)) : tabs G o n = tabs G' o n := List.map_congr_left fun k hk => h k (List.mem_range.mp hk)
theorem tabs_set {G : Nat → Tab} {o n k : Nat} {D : Tab} (h : k < n) : tabs (gset G (o + k) D) o n = (tabs G o n).set k D := by
  apply List.ext_getElem?
  intro j
  by_cases hj : j < n
  · rw [tabs_get hj]
    by_cases e : j = k
    · subst e
      rw [gset_at, List.getElem?_set_self (by rw [tabs_len]; exact h)]
    · rw [gset_ne (by omega), List.getElem?_set_ne (fun z => e z.symm), tabs_get hj]
  · rw [List.getElem?_eq_none (by rw [tabs_len]; omega), List.getElem?_eq_none (by rw [List.length_set, tabs_len]; omega)]
theorem settle_dct {st : Sto} {J : Tab} {t : Nat} : settle st.nxt (.loc st.nxt) (st.alloc (dC rE J t)) = some (bagP J, st) := by
  unfold settle
  rw [PV.res_loc (Nat.le_refl _) (Sto.alloc_get (dC_lb rE)) (dC_lb rE), Sto.restr_alloc (Nat.le_refl _), Sto.restr_self]
  rfl
theorem eqD_same {f : List Int → Int} {p t : Nat} {D E : Tab} {st : Sto} (h : st.cs p = some (dC rE D t)) (hD : Tb f D) (hE : Tb f E) : cmpEqD true (.loc p) (bagP E) st = some (.bl false, st) := by
  have hi : ∀ D : Tab, ∃ l, intsOf (avP PV.int D) = some l := fun D => ⟨D.map (·.2), by
    have := intsOf_map (D.map (·.2))
    rw [List.map_map] at this
    exact this⟩
  have ht : ∀ D : Tab, (akP rE D).all isTK = true := fun D => List.all_eq_true.mpr fun x hx => by
    obtain ⟨y, _, rfl⟩ := List.mem_map.mp hx
    exact rE.isTK_eq y.1
  obtain ⟨l1, h1⟩ := hi D
  obtain ⟨l2, h2⟩ := hi E
  show (match dctOf st (.loc p), dctOf st (bagP E) with
  | some (ks, vs), some (ls, us) => match intsOf vs, intsOf us with
    | some _, some _ => if ks.all isTK && ls.all isTK then some (PV.bl ((decide (ks.length = ls.length) && dsame ks vs ls us) != true), st) else none
    | _, _ => none
  | _, _ => none) = _
  rw [dct_of h]
  show (match intsOf (avP PV.int D), intsOf (avP PV.int E) with
    | some _, some _ => if (akP rE D).all isTK && (akP rE E).all isTK then some (PV.bl ((decide ((akP rE D).length = (akP rE E).length) && dsame (akP rE D) (avP PV.int D) (akP rE E) (avP PV.int E)) != true), st) else none
    | _, _ => none) = _
  rw [h1, h2]
  show (if (akP rE D).all isTK && (akP rE E).all isTK then some (PV.bl ((decide ((akP rE D).length = (akP rE E).length) && dsame (akP rE D) (avP PV.int D) (akP rE E) (avP PV.int E)) != true), st) else none) = _
  rw [ht, ht, if_pos (show (true && true) = true from rfl), tb_same hD hE]
  rfl
theorem addloop_wp {p b m i : Nat} {G : Nat → Tab} {rows : List Row} {x : Row} {PLACE : DE} {e0 e1 e2 e3 e4 e5 e6 e7 e8 e9 e10 e11 e12 e13 e14 e16 e17 e18 e19 : Option PV} {s : Sto} {Q : Fl → Sto → Prop} (M : Mem p b m G rows s) (hi : i < m) (nd : (x.2.1.map (·.1)).Nodup)
    (hP : ∀ (u : Option PV) (s : Sto), PLACE [e0, e1, e2, e3, e4, e5, e6, e7, e8, e9, e10, e11, e12, e13, e14, some (rowP x), e16, e17, u, e19] s = some (.loc (b + i), s))
    (P : Nat → Tab → Prop) (h0 : P 0 (G i)) (hs : ∀ j y E, x.2.1[j]? = some y → P j E → P (j + 1) (tadd E y.1 y.2)) (hl : ∀ j E, P j E → E.length ≤ 100000)
    (q : ∀ s' u E, P x.2.1.length E → Mem p b m (gset G i E) rows s' → Q (.nx [e0, e1, e2, e3, e4, e5, e6, e7, e8, e9, e10, e11, e12, e13, e14, some (rowP x), e16, e17, u, e19]) s') :
    wp (sFor (iSeq (dBin opIx (dVar 15) (dCst (.int 1)))) (gName 18) (sExpr (dCall f_law_add false (aCons PLACE (aCons (dVar 18) (aCons (dBin opIx (dBin opIx (dVar 15) (dCst (.int 1))) (dVar 18)) aNil))))) [e0, e1, e2, e3, e4, e5, e6, e7, e8, e9, e10, e11, e12, e13, e14, some (rowP x), e16, e17, e18, e19] s) Q := by
  walk_at "go"
  refine forGo_wp (its := ⟨akP rE x.2.1, none⟩) (fun j env s => ∃ u E, env = [e0, e1, e2, e3, e4, e5, e6, e7, e8, e9, e10, e11, e12, e13, e14, some (rowP x), e16, e17, u, e19] ∧ P j E ∧ Mem p b m (gset G i E) rows s) _ (fun j y env s hy hI => ?_) (fun env s hI => ?_) ⟨e18, G i, rfl, h0, by rw [gset_self]; exact M⟩
  · clear M
    obtain ⟨u, E, rfl, hPE, M⟩ := hI
    have hy : (x.2.1.map fun x => rE.p x.1)[j]? = some y := hy
    obtain ⟨z, hz, hm, rfl⟩ := get_map hy
    have hg := (tb_get (f := fun _ => 0) nd).mpr (show (z.1, z.2) ∈ x.2.1 from hm)
    obtain ⟨t, hc⟩ := M.bk i hi
    rw [gset_at] at hc
    refine ⟨Its.ok_none, wp_eq (a := [e0, e1, e2, e3, e4, e5, e6, e7, e8, e9, e10, e11, e12, e13, e14, some (rowP x), e16, e17, some (tT z.1), e19]) (s := s) rfl ?_⟩
    unfold sExpr
    refine wp_mb (wp_mb (wp_mb (wp_eq (hP _ _) ?_)))
    walk_at "go"
    refine wp_eq (dctv_ix hg) ?_
    walk_at "go"
    refine law_add_wp hc (hl j E hPE) fun t' => ?_
    refine wp_set rfl (lb_non _) ?_
    walk_at "go"
    refine ⟨_, tadd E z.1 z.2, rfl, hs j z E hz hPE, ?_⟩
    have := M.add (D := tadd E z.1 z.2) hi t'
    rw [gset_gset] at this
    exact this
  · obtain ⟨u, E, rfl, hPE, M⟩ := hI
    rw [show (Its.mk (akP rE x.2.1) none).items.length = x.2.1.length from ak_len rE x.2.1] at hPE
    exact ⟨Its.ok_none, q _ _ _ hPE M⟩
theorem toldloop_wp {p b m o n k : Nat} {G : Nat → Tab} {rows : List Row} {S : List (List Int)} {tq : List Int} {T : List Chg} {e0 e1 e2 e3 e4 e6 e8 e9 e10 e11 e13 e14 e15 e16 e18 e19 : Option PV} {s : Sto} {Q : Fl → Sto → Prop} (M : Mem p b m G rows s) (hi : o + k < m) (hk : k < n) (hq : S[k]? = some tq) (ht : ∀ x ∈ T, x.2.1.length = tq.length ∧ x.2.1.length ≤ 1000)
    (P : Nat → Tab → Prop) (h0 : P 0 (G (o + k))) (hs : ∀ j y E, T[j]? = some y → P j E → P (j + 1) (if leqB y.2.1 tq then tadd E y.1 y.2.2 else E)) (hl : ∀ j E, P j E → E.length ≤ 100000)
    (q : ∀ s' u E, P T.length E → Mem p b m (gset G (o + k) E) rows s' → Q (.nx [e0, e1, e2, e3, e4, some (rowsL S), e6, some (.int (k : Int)), e8, e9, e10, e11, some (.lst (locs (b + o) n)), e13, e14, e15, e16, some (.lst (T.map chP)), e18, u]) s') :
    wp (sFor (iSeq (dVar 17)) (gName 19)
        (sIf (tVal (dCall f_law_leq false (aCons (dBin opIx (dVar 19) (dCst (.int 1))) (aCons (dBin opIx (dVar 5) (dVar 7)) aNil))))
          (sExpr (dCall f_law_add false (aCons (dBin opIx (dVar 12) (dVar 7)) (aCons (dBin opIx (dVar 19) (dCst (.int 0))) (aCons (dBin opIx (dVar 19) (dCst (.int 2))) aNil)))))
          sPass) [e0, e1, e2, e3, e4, some (rowsL S), e6, some (.int (k : Int)), e8, e9, e10, e11, some (.lst (locs (b + o) n)), e13, e14, e15, e16, some (.lst (T.map chP)), e18, e19] s) Q := by
  walk_at "go"
  refine forGo_wp (its := ⟨T.map chP, none⟩) (fun j env s => ∃ u E, env = [e0, e1, e2, e3, e4, some (rowsL S), e6, some (.int (k : Int)), e8, e9, e10, e11, some (.lst (locs (b + o) n)), e13, e14, e15, e16, some (.lst (T.map chP)), e18, u] ∧ P j E ∧ Mem p b m (gset G (o + k) E) rows s) _ (fun j y env s hy hI => ?_) (fun env s hI => ?_) ⟨e19, G (o + k), rfl, h0, by rw [gset_self]; exact M⟩
  · clear M
    obtain ⟨u, E, rfl, hPE, M⟩ := hI
    obtain ⟨z, hz, hm, rfl⟩ := get_map hy
    obtain ⟨t, hc⟩ := M.bk (o + k) hi
    rw [gset_at] at hc
    obtain ⟨z1, z2⟩ := ht z hm
    refine ⟨Its.ok_none, wp_eq (a := [e0, e1, e2, e3, e4, some (rowsL S), e6, some (.int (k : Int)), e8, e9, e10, e11, some (.lst (locs (b + o) n)), e13, e14, e15, e16, some (.lst (T.map chP)), e18, some (chP z)]) (s := s) rfl ?_⟩
    have hst := hs j z E hz hPE
    walk_at "go"
    refine wp_eq (seq_ix (xs := S.map tT) (x := tT tq) rfl (atI_nat (by rw [List.getElem?_map, hq]; rfl))) ?_
    walk_at "go"
    refine wp_eq (law_leq_eq z1 z2) ?_
    walk_at "go"
    refine wp_if (fun hr => ?_) (fun hr => ?_)
    · rw [if_pos hr] at hst
      walk_at "go"
      refine wp_eq (seq_ix (xs := locs (b + o) n) (x := .loc (b + (o + k))) rfl (atI_nat (locs_get hk))) ?_
      walk_at "go"
      refine law_add_wp hc (hl j E hPE) fun t' => ?_
      refine wp_set rfl (lb_non _) ?_
      walk_at "go"
      refine ⟨_, _, rfl, hst, ?_⟩
      have := M.add (D := tadd E z.1 z.2.2) hi t'
      rw [gset_gset] at this
      exact this
    · rw [if_neg hr] at hst
      walk_at "go"
      exact ⟨_, _, rfl, hst, M⟩
  · obtain ⟨u, E, rfl, hPE, M⟩ := hI
    rw [show (Its.mk (T.map chP) none).items.length = T.length from List.length_map _] at hPE
    exact ⟨Its.ok_none, q _ _ _ hPE M⟩
theorem bank_wp {env : Env} {st : Sto} {S : List (List Int)} {Q : PV → Sto → Prop} (h5 : env[5]? = some (some (rowsL S))) (hz : S.length ≤ 10000) (q : ∀ s', s'.nxt = st.nxt + S.length → (∀ l c, st.cs l = some c → s'.cs l = some c) → (∀ i, i < S.length → s'.cs (st.nxt + i) = some (dC rE [] 0)) → Q (.lst (locs st.nxt S.length)) s') :
    wp (dLc false [10] (iSeq (dVar 5)) (gName 10) tYes (dDct0 true) env st) Q := by
  unfold dLc
  have e1 : iSeq (dVar 5) env st = some (⟨S.map tT, none⟩, st) := by
    have e0 : dVar 5 env st = some (rowsL S, st) := by unfold dVar; rw [h5]
    unfold iSeq
    rw [e0, mb_some]
    rfl
  refine wp_mb (wp_eq e1 ?_)
  refine wp_mb ?_
  refine lcGo_wp (its := ⟨S.map tT, none⟩) (fun k done s => done = locs st.nxt k ∧ s.nxt = st.nxt + k ∧ (∀ l c, st.cs l = some c → s.cs l = some c) ∧ (∀ i, i < k → s.cs (st.nxt + i) = some (dC rE [] 0))) _ (fun k x done s hx hI => ?_) (fun done s hI => ?_) ⟨rfl, rfl, fun _ _ h => h, fun i h => absurd h (Nat.not_lt_zero _)⟩
  · obtain ⟨rfl, h1, h2, h3⟩ := hI
    refine ⟨Its.ok_none, wp_eq rfl (wp_eq rfl ?_)⟩
    rw [if_pos rfl]
    refine wp_eq newD ?_
    have hlb : (Cell.dct [] [] 0).lb s.nxt = true := dC_lb rE (D := []) (t := 0)
    refine ⟨?_, by rw [Sto.alloc_nxt, h1]; omega, fun l c h => ?_, fun i hi => ?_⟩
    · unfold locs
      rw [List.range_succ, List.map_append, h1]
      rfl
    · rw [Sto.alloc_ne (by have := Sto.lt_of (h2 l c h); omega)]
      exact h2 l c h
    · by_cases e : i = k
      · subst e
        rw [← h1]
        exact Sto.alloc_get hlb
      · rw [Sto.alloc_ne (by omega)]
        exact h3 i (by omega)
  · obtain ⟨rfl, h1, h2, h3⟩ := hI
    rw [show (Its.mk (S.map tT) none).items.length = S.length from List.length_map _] at h1 h3 ⊢
    refine ⟨Its.ok_none, ?_⟩
    refine wp_eq (mkV_eq (okL (by rw [locs_len]; omega))) ?_
    exact q s h1 h2 h3
end DL

namespace DL
open PySem L2
local macro_rules | `(tactic| walk_at "go") => `(tactic| repeat (first | refine wp_mb ?_ | with_reducible refine wp_mul (by first | assumption | (exact okMul_iff.mpr (by omega))) ?_ | with_reducible refine wp_mod (by first | assumption | (exact okMod_iff.mpr (by omega))) ?_ | with_reducible refine wp_div (by first | assumption | (exact okDiv_iff.mpr (by omega))) ?_ | with_reducible refine wp_pow (by first | assumption | (exact okPow_iff.mpr (by decide))) ?_ | ((with_reducible refine wp_set ?_ ?_ ?_); (focus rfl); (focus first | exact tT_lb | exact lb_int _ _ | exact lb_bl _ _ | exact lb_non _ | assumption)) | refine wp_eq rfl ?_))
local macro_rules | `(tactic| walk_at "st") => `(tactic| ((first | (refine wp_seqK ?_; intro K hK) | skip); walk_at "go"))
local macro_rules | `(tactic| walk_at "nx") => `(tactic| ((try dsimp only [List.set_cons_zero, List.set_cons_succ]); refine wp_nx (by assumption) ?_; walk_at "st"))
local macro_rules | `(tactic| walk_at "nk") => `(tactic| ((try dsimp only [List.set_cons_zero, List.set_cons_succ]); refine wp_nx (by assumption) ?_))
/-! W21 of k28: behind a bag, one time -/
structure LW (ln : PV) (Pr : List (Nat × Nat)) (Tm : List (Sd × Nat)) (Mk S R0 R1 : List (List Int)) (w0 w1 : Nat) : Prop where
  l : LineOk ln Pr Tm
  pr : PrOk Pr w0 w1
  tm : TmOk Tm w0 w1
  low : TmLow Tm
  tl : Tm.length ≤ 10
  lb : ln.lb 0 = true
  mo : MkOk Mk
  sp : ∀ t ∈ S, InMk Mk t
  sz : S.length ≤ 6561
  r0 : ∀ r ∈ R0, r.length = w0
  r1 : ∀ r ∈ R1, r.length = w1
  p0 : 1 ≤ w0 ∧ w0 ≤ 4
  p1 : 1 ≤ w1 ∧ w1 ≤ 4
/-- what is held for one time -/
structure At (Pr : List (Nat × Nat)) (Tm : List (Sd × Nat)) (w0 w1 n c k : Nat) (q : List Int) (G : Nat → Tab) (A0 A1 : List Chg) : Prop where
  t0 : Tb (bag A0 q) (G (2 * n + k))
  b0 : Bdd w0 c (G (2 * n + k))
  t1 : Tb (bag A1 q) (G (3 * n + k))
  b1 : Bdd w1 c (G (3 * n + k))
  s : Tb (fun z => dbl (hit (kmOf Pr) (imOf Tm) q z) A0 A1) (G (4 * n + k))
  l : (G (4 * n + k)).length ≤ 1000 * c
theorem At.congr {Pr : List (Nat × Nat)} {Tm : List (Sd × Nat)} {w0 w1 n c k : Nat} {q : List Int} {G G' : Nat → Tab} {A0 A1 : List Chg} (h : At Pr Tm w0 w1 n c k q G A0 A1) (e0 : G' (2 * n + k) = G (2 * n + k)) (e1 : G' (3 * n + k) = G (3 * n + k)) (e2 : G' (4 * n + k) = G (4 * n + k)) : At Pr Tm w0 w1 n c k q G' A0 A1 :=
  ⟨by rw [e0]; exact h.t0, by rw [e0]; exact h.b0, by rw [e1]; exact h.t1, by rw [e1]; exact h.b1, by rw [e2]; exact h.s, by rw [e2]; exact h.l⟩
theorem brt_take {D : Tab} {t : List Int} {j : Nat} {y : List Int × Int} (h : D[j]? = some y) : brt (D.take (j + 1)) t = brt (D.take j) t ++ [(y.1, t, y.2)] := by
  unfold brt
  rw [take_step h, List.map_append]
  rfl
/-- which side a bag is brought to -/
inductive Side (w0 w1 : Nat) (A0 A1 B : List Chg) : Int → Nat → List Chg → List Chg → List Chg → Prop
  | left : Side w0 w1 A0 A1 B 0 w0 A0 (A0 ++ B) A1
  | right : Side w0 w1 A0 A1 B 1 w1 A1 A0 (A1 ++ B)
set_option maxHeartbeats 8000000 in
theorem spot_wp {ln : PV} {Pr : List (Nat × Nat)} {Tm : List (Sd × Nat)} {Mk S R0 R1 : List (List Int)} {w0 w1 p b n c k w : Nat} {G : Nat → Tab} {rows : List Row} {x : Row} {tq : List Int} {T A A0 A1 A0' A1' : List Chg} {e0 e1 e2 e4 e6 e8 e9 e10 e13 e14 e18 e19 : Option PV} {s : Sto}
    (W : LW ln Pr Tm Mk S R0 R1 w0 w1) (M : Mem p b (5 * n) G rows s) (hn : S.length = n) (hq : S[k]? = some tq) (hx : RowOk R0 R1 S x) (hs : Side w0 w1 A0 A1 (brt x.2.1 x.2.2) x.1 w A A0' A1') (hc : c + 3 ≤ 100)
    (a : At Pr Tm w0 w1 n c k tq G A0 A1) (hT : ∀ y ∈ T, y.2.1.length = Mk.length) (hTl : T.length ≤ 1000) (hw : ∀ y ∈ x.2.1, y.1.length = w) (hstep : ∀ z, dbl (hit (kmOf Pr) (imOf Tm) tq z) A0' A1' = dbl (hit (kmOf Pr) (imOf Tm) tq z) A0 A1 + bag T tq z) :
    wp ((sSeq (sIf (tVal (dCall f_law_leq false (aCons (dBin opIx (dVar 15) (dCst (.int 2))) (aCons (dBin opIx (dVar 5) (dVar 7)) aNil))))
        (sFor (iSeq (dBin opIx (dVar 15) (dCst (.int 1)))) (gName 18)
          (sExpr (dCall f_law_add false (aCons (dBin opIx (dBin opIx (dVar 11) (dVar 16)) (dVar 7)) (aCons (dVar 18) (aCons (dBin opIx (dBin opIx (dVar 15) (dCst (.int 1))) (dVar 18)) aNil))))))
        sPass)
        (sSeq (sFor (iSeq (dVar 17)) (gName 19)
        (sIf (tVal (dCall f_law_leq false (aCons (dBin opIx (dVar 19) (dCst (.int 1))) (aCons (dBin opIx (dVar 5) (dVar 7)) aNil))))
          (sExpr (dCall f_law_add false (aCons (dBin opIx (dVar 12) (dVar 7)) (aCons (dBin opIx (dVar 19) (dCst (.int 0))) (aCons (dBin opIx (dVar 19) (dCst (.int 2))) aNil)))))
          sPass))
        (sIf (tVal (dBin (cmpEqD true) (dBin opIx (dVar 12) (dVar 7)) (dCall f_law_joined false (aCons (dVar 3) (aCons (dBin opIx (dBin opIx (dVar 11) (dCst (.int 0))) (dVar 7)) (aCons (dBin opIx (dBin opIx (dVar 11) (dCst (.int 1))) (dVar 7)) aNil))))))
        (sRet (dCst (.bl false)))
        sPass)))
      [e0, e1, e2, some ln, e4, some (rowsL S), e6, some (.int (k : Int)), e8, e9, e10, some (.lst [.lst (locs (b + 2 * n) n), .lst (locs (b + 3 * n) n)]), some (.lst (locs (b + 4 * n) n)), e13, e14, some (rowP x), some (.int x.1), some (.lst (T.map chP)), e18, e19] s)
      fun f s' => ∃ G' u18 u19, f = .nx [e0, e1, e2, some ln, e4, some (rowsL S), e6, some (.int (k : Int)), e8, e9, e10, some (.lst [.lst (locs (b + 2 * n) n), .lst (locs (b + 3 * n) n)]), some (.lst (locs (b + 4 * n) n)), e13, e14, some (rowP x), some (.int x.1), some (.lst (T.map chP)), u18, u19] ∧ Mem p b (5 * n) G' rows s' ∧ At Pr Tm w0 w1 n (c + 3) k tq G' A0' A1' ∧ ∀ j, j ≠ 2 * n + k → j ≠ 3 * n + k → j ≠ 4 * n + k → G' j = G j := by
  have hk : k < n := by rw [← hn]; exact (List.getElem?_eq_some_iff.mp hq).1
  have hqm := W.sp _ (List.mem_of_getElem? hq)
  have htm := W.sp _ hx.tm
  have hM4 := W.mo.n4
  have hSl := W.sz
  obtain ⟨o, ho, hix, tA, bA⟩ : ∃ o, (x.1 = 0 ∧ o = 2 * n ∨ x.1 = 1 ∧ o = 3 * n) ∧ (∀ s : Sto, opIx (.lst [.lst (locs (b + 2 * n) n), .lst (locs (b + 3 * n) n)]) (.int x.1) s = some (.lst (locs (b + o) n), s)) ∧ Tb (bag A tq) (G (o + k)) ∧ Bdd w c (G (o + k)) := by
    obtain ⟨i, D, t⟩ := x
    cases hs with
    | left => exact ⟨2 * n, .inl ⟨rfl, rfl⟩, fun s => rfl, a.t0, a.b0⟩
    | right => exact ⟨3 * n, .inr ⟨rfl, rfl⟩, fun s => rfl, a.t1, a.b1⟩
  have ho5 : o + k < 5 * n := by omega
  refine wp_seqK ?_
  intro K hK
  refine wp_mono (R := fun f s' => ∃ E u18, f = .nx [e0, e1, e2, some ln, e4, some (rowsL S), e6, some (.int (k : Int)), e8, e9, e10, some (.lst [.lst (locs (b + 2 * n) n), .lst (locs (b + 3 * n) n)]), some (.lst (locs (b + 4 * n) n)), e13, e14, some (rowP x), some (.int x.1), some (.lst (T.map chP)), u18, e19] ∧ Mem p b (5 * n) (gset G (o + k) E) rows s' ∧ Tb (bag (A ++ brt x.2.1 x.2.2) tq) E ∧ Bdd w (c + 3) E) ?_ fun f s1 hR => ?_
  · walk_at "go"
    refine wp_eq (seq_ix (xs := S.map tT) (x := tT tq) rfl (atI_nat (by rw [List.getElem?_map, hq]; rfl))) ?_
    walk_at "go"
    refine wp_eq (law_leq_eq (by rw [hqm.1, htm.1]) (by rw [htm.1]; omega)) ?_
    walk_at "go"
    refine wp_if (fun hr => ?_) (fun hr => ?_)
    · refine addloop_wp M ho5 hx.nd (fun u s => ?_) (fun j E => Tb (bag (A ++ brt (x.2.1.take j) x.2.2) tq) E ∧ Bdd w (c + j) E ∧ j ≤ x.2.1.length) ⟨?_, bA, Nat.zero_le _⟩ (fun j y E hy hP => ?_) (fun j E hP => ?_) (fun s' u E hP M' => ?_)
      · refine eq_of_wp ?_
        walk_at "go"
        refine wp_eq (hix _) ?_
        walk_at "go"
        exact wp_eq (seq_ix (xs := locs (b + o) n) rfl (atI_nat (locs_get hk))) ⟨rfl, rfl⟩
      · show Tb (bag (A ++ []) tq) _
        rw [List.append_nil]
        exact tA
      · obtain ⟨h1, h2, h3⟩ := hP
        have hym := List.mem_of_getElem? hy
        refine ⟨?_, h2.add (hw y hym) (hx.rc y hym).2, (List.getElem?_eq_some_iff.mp hy).1⟩
        rw [brt_take hy, ← List.append_assoc]
        exact h1.snoc (x := (y.1, x.2.2, y.2)) hr
      · have h1 := hP.2.1.len
        have h2 := hx.len
        have h3 := hP.2.2
        omega
      · obtain ⟨h1, h2, _⟩ := hP
        rw [List.take_length] at h1
        exact ⟨E, u, rfl, M', h1, h2.mono (by have := hx.len; omega)⟩
    · walk_at "go"
      refine ⟨G (o + k), _, rfl, by rw [gset_self]; exact M, tA.congr fun r => (bag_brt_no (by simpa using hr) A r).symm, bA.mono (by omega)⟩
  clear M
  obtain ⟨E, u18, rfl, M, tE, bE⟩ := hR
  walk_at "nk"
  clear hK
  refine wp_seqK ?_
  intro K hK
  refine toldloop_wp (o := 4 * n) M (by omega) hk hq (fun y hy => by rw [hT y hy, hqm.1]; omega) (fun j J => Tb (fun z => dbl (hit (kmOf Pr) (imOf Tm) tq z) A0 A1 + bag (T.take j) tq z) J ∧ J.length ≤ 1000 * c + j ∧ j ≤ T.length) ⟨?_, ?_, Nat.zero_le _⟩ (fun j y J hy hP => ?_) (fun j J hP => ?_) (fun s' u J hP M' => ?_)
  · rw [gset_ne (by omega)]
    exact a.s.congr fun z => (Int.add_zero _).symm
  · rw [gset_ne (by omega)]
    exact a.l
  · obtain ⟨h1, h2, h3⟩ := hP
    have hj := (List.getElem?_eq_some_iff.mp hy).1
    rw [take_step hy]
    by_cases hl : leqB y.2.1 tq = true
    · rw [if_pos hl]
      exact ⟨h1.told hl, Nat.le_trans (tadd_len _ _ _) (by omega), hj⟩
    · rw [if_neg hl]
      exact ⟨h1.congr fun z => by rw [told_no (by simpa using hl)], by omega, hj⟩
  · obtain ⟨_, h2, h3⟩ := hP
    omega
  · clear M
    obtain ⟨h1, h2, _⟩ := hP
    rw [List.take_length] at h1
    have at' : At Pr Tm w0 w1 n (c + 3) k tq (gset (gset G (o + k) E) (4 * n + k) J) A0' A1' := by
      have hJ : Tb (fun z => dbl (hit (kmOf Pr) (imOf Tm) tq z) A0' A1') J := h1.congr fun z => (hstep z).symm
      obtain ⟨i, D, t⟩ := x
      cases hs with
      | left =>
        obtain rfl : o = 2 * n := by rcases ho with h | h; exact h.2; exact absurd (show (0 : Int) = 1 from h.1) (by decide)
        exact ⟨by rw [gset_ne (by omega), gset_at]; exact tE, by rw [gset_ne (by omega), gset_at]; exact bE, by rw [gset_ne (by omega), gset_ne (by omega)]; exact a.t1, by rw [gset_ne (by omega), gset_ne (by omega)]; exact a.b1.mono (by omega), by rw [gset_at]; exact hJ, by rw [gset_at]; omega⟩
      | right =>
        obtain rfl : o = 3 * n := by rcases ho with h | h; exact absurd (show (1 : Int) = 0 from h.1) (by decide); exact h.2
        exact ⟨by rw [gset_ne (by omega), gset_ne (by omega)]; exact a.t0, by rw [gset_ne (by omega), gset_ne (by omega)]; exact a.b0.mono (by omega), by rw [gset_ne (by omega), gset_at]; exact tE, by rw [gset_ne (by omega), gset_at]; exact bE, by rw [gset_at]; exact hJ, by rw [gset_at]; omega⟩
    have hout : ∀ j, j ≠ 2 * n + k → j ≠ 3 * n + k → j ≠ 4 * n + k → (gset (gset G (o + k) E) (4 * n + k) J) j = G j := fun j j2 j3 j4 => by
      rw [gset_ne j4, gset_ne (by rcases ho with h | h <;> omega)]
    generalize gset (gset G (o + k) E) (4 * n + k) J = G' at M' at' hout
    walk_at "nk"
    clear hK
    obtain ⟨t0, c0⟩ := M'.bk (2 * n + k) (by omega)
    obtain ⟨t1, c1⟩ := M'.bk (3 * n + k) (by omega)
    obtain ⟨t4, c4⟩ := M'.bk (4 * n + k) (by omega)
    walk_at "go"
    refine wp_eq (seq_ix (xs := locs (b + 4 * n) n) rfl (atI_nat (locs_get hk))) ?_
    walk_at "go"
    refine wp_eq (seq_ix (xs := locs (b + 2 * n) n) rfl (atI_nat (locs_get hk))) ?_
    walk_at "go"
    refine wp_eq (seq_ix (xs := locs (b + 3 * n) n) rfl (atI_nat (locs_get hk))) ?_
    walk_at "go"
    refine law_joined_wp W.l W.pr W.tm W.low W.tl (at'.b0.ok hc at'.t0.nd) (at'.b1.ok hc at'.t1.nd) c0 c1 fun Jn tn hJn => ?_
    refine wp_settle settle_dct ?_
    walk_at "go"
    refine wp_eq (eqD_same c4 at'.s (hJn.congr fun z => joinT_dbl at'.t0 at'.t1)) ?_
    walk_at "go"
    exact ⟨G', _, _, rfl, M', at', hout⟩
end DL

namespace DL
open PySem L2
local macro_rules | `(tactic| walk_at "go") => `(tactic| repeat (first | refine wp_mb ?_ | with_reducible refine wp_mul (by first | assumption | (exact okMul_iff.mpr (by omega))) ?_ | with_reducible refine wp_mod (by first | assumption | (exact okMod_iff.mpr (by omega))) ?_ | with_reducible refine wp_div (by first | assumption | (exact okDiv_iff.mpr (by omega))) ?_ | with_reducible refine wp_pow (by first | assumption | (exact okPow_iff.mpr (by decide))) ?_ | ((with_reducible refine wp_set ?_ ?_ ?_); (focus rfl); (focus first | exact tT_lb | exact lb_int _ _ | exact lb_bl _ _ | exact lb_non _ | assumption)) | refine wp_eq rfl ?_))
local macro_rules | `(tactic| walk_at "st") => `(tactic| ((first | (refine wp_seqK ?_; intro K hK) | skip); walk_at "go"))
local macro_rules | `(tactic| walk_at "nx") => `(tactic| ((try dsimp only [List.set_cons_zero, List.set_cons_succ]); refine wp_nx (by assumption) ?_; walk_at "st"))
local macro_rules | `(tactic| walk_at "nk") => `(tactic| ((try dsimp only [List.set_cons_zero, List.set_cons_succ]); refine wp_nx (by assumption) ?_))
/-! W22 of k28: one bag -/
theorem index_at {o a : DE} {env : Env} {st : Sto} {t : List Int} {S : List (List Int)} {k : Nat} (h0 : o env st = some (rowsL S, st)) (h1 : a env st = some (tT t, st)) (e : firstIx (.tuple (t.map PyData.int)) (S.map fun a => PyData.tuple (a.map PyData.int)) 0 = some k) : dIndex o a env st = some (.int (k : Int), st) := by
  unfold dIndex
  rw [h0, mb_some]
  show mb (a env st) _ = _
  rw [h1, mb_some]
  show (match toDs st.cs (S.map tT), (tT t).toD st.cs with
      | some ds, some d => if SeqAt.shaped (.list ds) && SeqAt.shaped d then (firstIx d ds 0).map fun k => (PV.int (k : Int), st) else none
      | _, _ => none) = _
  rw [toDs_rows, toD_tT]
  show (if SeqAt.shaped (.list (S.map fun a => PyData.tuple (a.map PyData.int))) && SeqAt.shaped (.tuple (t.map PyData.int)) then (firstIx (.tuple (t.map PyData.int)) (S.map fun a => PyData.tuple (a.map PyData.int)) 0).map fun k => (PV.int (k : Int), st) else none) = _
  rw [shaped_rows, shaped_tT, e]
  rfl
/-- what holds behind m bags -/
structure Inv28 (Pr : List (Nat × Nat)) (Tm : List (Sd × Nat)) (S R0 R1 : List (List Int)) (w0 w1 n m : Nat) (G : Nat → Tab) (rows : List Row) (A0 A1 : List Chg) : Prop where
  len : rows.length = m
  ok : ∀ x ∈ rows, RowOk R0 R1 S x
  br0 : Br S w0 (3 * m) (tabs G 0 n) A0
  br1 : Br S w1 (3 * m) (tabs G n n) A1
  at' : ∀ k q, S[k]? = some q → At Pr Tm w0 w1 n (3 * m) k q G A0 A1
def bankP (b o1 o2 n : Nat) : PV := .lst [.lst (locs (b + o1) n), .lst (locs (b + o2) n)]
theorem side_facts {ln : PV} {Pr : List (Nat × Nat)} {Tm : List (Sd × Nat)} {Mk S R0 R1 : List (List Int)} {w0 w1 b n m : Nat} {G : Nat → Tab} {rows : List Row} {x : Row} {A0 A1 : List Chg} (W : LW ln Pr Tm Mk S R0 R1 w0 w1) (I : Inv28 Pr Tm S R0 R1 w0 w1 n m G rows A0 A1) (hx : RowOk R0 R1 S x) (hm : 3 * m + 3 ≤ 100) :
    ∃ (oB oC w : Nat) (A A0' A1' T : List Chg), (oB = 0 ∧ oC = n ∨ oB = n ∧ oC = 0) ∧ (∀ s : Sto, opIx (bankP b 0 n n) (.int x.1) s = some (.lst (locs (b + oB) n), s)) ∧ (∀ s : Sto, opIx (bankP b 0 n n) (.int (1 - x.1)) s = some (.lst (locs (b + oC) n), s)) ∧
      Side w0 w1 A0 A1 (brt x.2.1 x.2.2) x.1 w A A0' A1' ∧ (∀ y ∈ x.2.1, y.1.length = w) ∧ Br S w (3 * m) (tabs G oB n) A ∧
      (∀ G', Br S w (3 * m + 3) (tabs G' oB n) (A ++ brt x.2.1 x.2.2) → (∀ k, k < n → G' (oC + k) = G (oC + k)) → Br S w0 (3 * (m + 1)) (tabs G' 0 n) A0' ∧ Br S w1 (3 * (m + 1)) (tabs G' n n) A1') ∧
      Srt kE (T.map keyOf) ∧ (∀ y ∈ T, y.1.length = Tm.length ∧ InMk Mk y.2.1 ∧ y.2.2 ≠ 0) ∧ T.length ≤ 1000 ∧
      (∀ q z, dbl (hit (kmOf Pr) (imOf Tm) q z) A0' A1' = dbl (hit (kmOf Pr) (imOf Tm) q z) A0 A1 + bag T q z) ∧
      (∀ y ∈ lstd S (tabs G oC n), y.1.length ≤ 1000 ∧ y.2.1.length ≤ 1000) ∧ (lstd S (tabs G oC n)).length ≤ 100 ∧
      (∀ (st : Sto) (Q : PV → Sto → Prop), Q (.loc st.nxt) (st.alloc (.lst (T.map chP))) → wp (f_join_step [ln, sdP x.1, .lst ((lstd S (tabs G oC n)).map chP), bagP x.2.1, tT x.2.2] st) Q) ∧
      (∀ D ∈ tabs G oC n, D.length ≤ 100 ∧ ∀ y ∈ D, y.1 ≠ []) := by
  have hM4 := W.mo.n4
  obtain ⟨p01, p02⟩ := W.p0
  obtain ⟨p11, p12⟩ := W.p1
  have hSn : ∀ t ∈ S, t.length = Mk.length := fun t ht => (W.sp t ht).1
  have hlen := hx.len
  have k0 := I.br0.chok hSn (by omega)
  have k1 := I.br1.chok hSn (by omega)
  have hw2 : ∀ {w : Nat} {Ds : List Tab} {A : List Chg}, 1 ≤ w → Br S w (3 * m) Ds A → ∀ D ∈ Ds, D.length ≤ 100 ∧ ∀ y ∈ D, y.1 ≠ [] := fun hw B D hD => by
    have := (B.ok D hD).len
    refine ⟨by omega, fun y hy e => ?_⟩
    have h := ((B.ok D hD).rc y hy).1
    rw [e, List.length_nil] at h
    omega
  have hmk : ∀ {Ds : List Tab}, ∀ y ∈ lstd S Ds, InMk Mk y.2.1 := fun y hy => W.sp _ (lstd_mem hy).1
  obtain ⟨i, D, t⟩ := x
  have htm := W.sp t hx.tm
  have hbt : ∀ y ∈ brt D t, InMk Mk y.2.1 := fun y hy => by
    obtain ⟨z, _, rfl⟩ := List.mem_map.mp hy
    exact htm
  have hbw : ∀ {w : Nat}, (∀ y ∈ D, y.1.length = w) → ∀ y ∈ brt D t, ChOk w Mk.length y := fun hw y hy => by
    obtain ⟨z, hz, rfl⟩ := List.mem_map.mp hy
    refine ⟨hw z hz, htm.1, Nat.lt_trans (hx.rc z hz).2 (by decide +kernel)⟩
  have hbl : (brt D t).length ≤ 3 := by
    unfold brt
    rw [List.length_map]
    exact hlen
  have hlen : D.length ≤ 3 := hlen
  have s0 := I.br0.sz
  have s1 := I.br1.sz
  rcases hx.sd with hi | hi
  · have hi : i = 0 := hi
    subst hi
    have hw : ∀ y ∈ D, y.1.length = w0 := fun y hy => W.r0 _ (by have := (hx.rc y hy).1; rwa [if_pos rfl] at this)
    refine ⟨0, n, w0, A0, A0 ++ brt D t, A1, canon (pairL (kmOf Pr) (imOf Tm) (brt D t) (lstd S (tabs G n n))), .inl ⟨rfl, rfl⟩, fun s => rfl, fun s => rfl, .left, hw, I.br0, fun G' h1 h2 => ⟨h1.mono (by omega), ?_⟩, canon_keys _, told_ok hbt hmk, ?_, fun q z => ?_, fun y hy => ?_, by omega, fun st Q q => ?_, hw2 p11 I.br1⟩
    · rw [tabs_congr h2]
      exact I.br1.mono (by omega)
    · refine Nat.le_trans (canon_len _) (Nat.le_trans pair_len ?_)
      exact Nat.le_trans (Nat.mul_le_mul hbl (show _ ≤ 100 by omega)) (by decide)
    · exact step_left (n := Mk.length) (fun y hy => (hmk y hy).1) (fun y hy => (hbt y hy).1) I.br1.tot q z
    · obtain ⟨h1, h2, _⟩ := k1 y hy
      omega
    · exact join_left_wp (w0 := w0) (w1 := w1) (n := Mk.length) W.l W.pr W.tm W.tl hx.nd (hbw hw) k1 (by omega) ⟨by omega, by omega⟩ q
  · have hi : i = 1 := hi
    subst hi
    have hw : ∀ y ∈ D, y.1.length = w1 := fun y hy => W.r1 _ (by have := (hx.rc y hy).1; rwa [if_neg (show ¬ (1 : Int) = 0 by decide)] at this)
    refine ⟨n, 0, w1, A1, A0, A1 ++ brt D t, canon (pairL (kmOf Pr) (imOf Tm) (lstd S (tabs G 0 n)) (brt D t)), .inr ⟨rfl, rfl⟩, fun s => rfl, fun s => rfl, .right, hw, I.br1, fun G' h1 h2 => ⟨?_, h1.mono (by omega)⟩, canon_keys _, told_ok hmk hbt, ?_, fun q z => ?_, fun y hy => ?_, by omega, fun st Q q => ?_, hw2 p01 I.br0⟩
    · rw [tabs_congr h2]
      exact I.br0.mono (by omega)
    · refine Nat.le_trans (canon_len _) (Nat.le_trans pair_len ?_)
      exact Nat.le_trans (Nat.mul_le_mul (show _ ≤ 100 by omega) hbl) (by decide)
    · exact step_right (n := Mk.length) (fun y hy => (hmk y hy).1) (fun y hy => (hbt y hy).1) I.br0.tot q z
    · obtain ⟨h1, h2, _⟩ := k0 y hy
      omega
    · exact join_right_wp (w0 := w0) (w1 := w1) (n := Mk.length) W.l W.pr W.tm W.tl hx.nd (hbw hw) k0 (by omega) ⟨by omega, by omega⟩ q
end DL

namespace DL
open PySem L2
local macro_rules | `(tactic| walk_at "go") => `(tactic| repeat (first | refine wp_mb ?_ | with_reducible refine wp_mul (by first | assumption | (exact okMul_iff.mpr (by omega))) ?_ | with_reducible refine wp_mod (by first | assumption | (exact okMod_iff.mpr (by omega))) ?_ | with_reducible refine wp_div (by first | assumption | (exact okDiv_iff.mpr (by omega))) ?_ | with_reducible refine wp_pow (by first | assumption | (exact okPow_iff.mpr (by decide))) ?_ | ((with_reducible refine wp_set ?_ ?_ ?_); (focus rfl); (focus first | exact tT_lb | exact lb_int _ _ | exact lb_bl _ _ | exact lb_non _ | assumption)) | refine wp_eq rfl ?_))
local macro_rules | `(tactic| walk_at "st") => `(tactic| ((first | (refine wp_seqK ?_; intro K hK) | skip); walk_at "go"))
local macro_rules | `(tactic| walk_at "nx") => `(tactic| ((try dsimp only [List.set_cons_zero, List.set_cons_succ]); refine wp_nx (by assumption) ?_; walk_at "st"))
local macro_rules | `(tactic| walk_at "nk") => `(tactic| ((try dsimp only [List.set_cons_zero, List.set_cons_succ]); refine wp_nx (by assumption) ?_))
/-! W23 of k28: one bag brought -/
set_option maxHeartbeats 8000000 in
theorem turn_wp {ln : PV} {Pr : List (Nat × Nat)} {Tm : List (Sd × Nat)} {Mk S R0 R1 : List (List Int)} {w0 w1 p b n m : Nat} {G : Nat → Tab} {rows : List Row} {A0 A1 : List Chg} {e0 e2 e6 u7 e10 u14 u15 u16 u17 u18 u19 : Option PV} {s : Sto} (W : LW ln Pr Tm Mk S R0 R1 w0 w1) (M : Mem p b (5 * n) G rows s) (I : Inv28 Pr Tm S R0 R1 w0 w1 n m G rows A0 A1) (hn : S.length = n) (hm : m < 20) (n0 : R0 ≠ []) (n1 : R1 ≠ []) (nS : S ≠ []) :
    wp ((sSeq (sAsg (dCall f_law_packet false (aCons (dVar 1) (aCons (dVar 8) (aCons (dVar 5) (aCons (dVar 13) aNil))))) (gName 15))
      (sSeq (sExpr (dMetL mAppend (dVar 13) (aCons (dVar 15) aNil)))
      (sSeq (sAsg (dBin opIx (dVar 15) (dCst (.int 0))) (gName 16))
      (sSeq (sAsg (dCall f_law_ask false (aCons (dVar 3) (aCons (dVar 15) (aCons (dCall f_law_listed false (aCons (dBin opIx (dVar 9) (dBin opSub (dCst (.int 1)) (dVar 16))) (aCons (dVar 5) aNil))) (aCons (dVar 4) aNil))))) (gName 17))
      (sSeq (sIf (tVal (dUn (cmpIsN false) (dVar 17)))
      (sRet (dCst (.bl false)))
      sPass)
      (sSeq (sFor (iSeq (dBin opIx (dVar 15) (dCst (.int 1)))) (gName 18)
      (sExpr (dCall f_law_add false (aCons (dBin opIx (dBin opIx (dVar 9) (dVar 16)) (dIndex (dVar 5) (dBin opIx (dVar 15) (dCst (.int 2))))) (aCons (dVar 18) (aCons (dBin opIx (dBin opIx (dVar 15) (dCst (.int 1))) (dVar 18)) aNil))))))
      (sFor (iRng1 (dApp (bLen) (aCons (dVar 5) aNil))) (gName 7)
      (sSeq (sIf (tVal (dCall f_law_leq false (aCons (dBin opIx (dVar 15) (dCst (.int 2))) (aCons (dBin opIx (dVar 5) (dVar 7)) aNil))))
        (sFor (iSeq (dBin opIx (dVar 15) (dCst (.int 1)))) (gName 18)
          (sExpr (dCall f_law_add false (aCons (dBin opIx (dBin opIx (dVar 11) (dVar 16)) (dVar 7)) (aCons (dVar 18) (aCons (dBin opIx (dBin opIx (dVar 15) (dCst (.int 1))) (dVar 18)) aNil))))))
        sPass)
        (sSeq (sFor (iSeq (dVar 17)) (gName 19)
        (sIf (tVal (dCall f_law_leq false (aCons (dBin opIx (dVar 19) (dCst (.int 1))) (aCons (dBin opIx (dVar 5) (dVar 7)) aNil))))
          (sExpr (dCall f_law_add false (aCons (dBin opIx (dVar 12) (dVar 7)) (aCons (dBin opIx (dVar 19) (dCst (.int 0))) (aCons (dBin opIx (dVar 19) (dCst (.int 2))) aNil)))))
          sPass))
        (sIf (tVal (dBin (cmpEqD true) (dBin opIx (dVar 12) (dVar 7)) (dCall f_law_joined false (aCons (dVar 3) (aCons (dBin opIx (dBin opIx (dVar 11) (dCst (.int 0))) (dVar 7)) (aCons (dBin opIx (dBin opIx (dVar 11) (dCst (.int 1))) (dVar 7)) aNil))))))
        (sRet (dCst (.bl false)))
        sPass))))))))))
      [e0, some (.loc p), e2, some ln, some (mksP Mk), some (rowsL S), e6, u7, some (.lst [rowsL R0, rowsL R1]), some (bankP b 0 n n), e10, some (bankP b (2 * n) (3 * n) n), some (.lst (locs (b + 4 * n) n)), some (.loc (b + 5 * n)), u14, u15, u16, u17, u18, u19] s)
      fun f s' => ∃ G' rows' A0' A1' u7 u15 u16 u17 u18 u19, f = .nx [e0, some (.loc p), e2, some ln, some (mksP Mk), some (rowsL S), e6, u7, some (.lst [rowsL R0, rowsL R1]), some (bankP b 0 n n), e10, some (bankP b (2 * n) (3 * n) n), some (.lst (locs (b + 4 * n) n)), some (.loc (b + 5 * n)), u14, u15, u16, u17, u18, u19] ∧ Mem p b (5 * n) G' rows' s' ∧ Inv28 Pr Tm S R0 R1 w0 w1 n (m + 1) G' rows' A0' A1' := by
  have hS6 := W.sz
  have hM4 := W.mo.n4
  have hrl := I.len
  refine wp_seqK ?_
  intro K hK
  walk_at "go"
  refine packet_wp M.pool M.row (by have := M.hp; omega) n0 n1 nS I.ok (by omega) fun x s1 hx d => ?_
  refine wp_set (by rw [d.nxt]) rowP_lb ?_
  replace M := M.dr d
  clear d
  walk_at "go"
  walk_at "nk"
  clear hK
  obtain ⟨oB, oC, w, A, A0', A1', T, hoo, hixB, hixC, hside, hw, hBr, hBr', hSrt, hTok, hTl, hstep, hKw, hKl, hJ, hKD⟩ := side_facts (b := b) W I hx (by omega)
  refine wp_seqK ?_
  intro K hK
  walk_at "go"
  refine wp_eq (loc_asL M.row) ?_
  walk_at "go"
  refine wp_eq (loc_append M.row (by rw [List.length_map, sizeLine_eq]; omega) rowP_lb) ?_
  replace M := M.push (x := x)
  walk_at "go"
  walk_at "nk"
  clear hK
  refine wp_seqK ?_
  intro K hK
  walk_at "go"
  walk_at "nk"
  clear hK
  have hoB : oB ≤ n ∧ oC ≤ n := by omega
  refine wp_seqK ?_
  intro K hK
  walk_at "go"
  refine wp_eq (hixC _) ?_
  walk_at "go"
  refine klisted_wp (Ds := tabs G oC n) hS6 (by rw [tabs_len, hn]) (fun k D hD => ?_) hKD ?_
  · have hk : k < n := by have := (List.getElem?_eq_some_iff.mp hD).1; rwa [tabs_len] at this
    rw [tabs_get hk] at hD
    cases hD
    obtain ⟨t, ht⟩ := M.bk (oC + k) (by omega)
    exact ⟨_, t, locs_get hk, ht⟩
  refine wp_settle (settle_new chs_lb) ?_
  walk_at "go"
  refine law_ask_wp (Pr := Pr) (Tm := Tm) W.l hx.sd hx.nd (by have := hx.len; omega) (fun y hy => ?_) (by omega) hKw (by have := W.tl; omega) (by omega) (by omega) hSrt hTok hJ ?_
  · have h1 := W.p0.2
    have h2 := W.p1.2
    rw [hw y hy]
    have hww : w = w0 ∨ w = w1 := by
      generalize x.1 = i at hside
      cases hside with
      | left => exact .inl rfl
      | right => exact .inr rfl
    omega
  refine wp_set rfl chs_lbV ?_
  walk_at "go"
  walk_at "nk"
  clear hK
  refine wp_seqK ?_
  intro K hK
  walk_at "go"
  walk_at "nk"
  clear hK
  refine wp_seqK ?_
  intro K hK
  obtain ⟨kk, hfi, hkk⟩ := firstIx_mem (b := 0) hx.tm
  rw [Nat.zero_add] at hfi
  have hkn : kk < n := by rw [← hn]; exact (List.getElem?_eq_some_iff.mp hkk).1
  refine addloop_wp (i := oB + kk) M (by omega) hx.nd (fun u s => ?_) (fun j E => Br S w (3 * m + j) (tabs (gset G (oB + kk) E) oB n) (A ++ brt (x.2.1.take j) x.2.2) ∧ j ≤ x.2.1.length) ⟨?_, Nat.zero_le _⟩ (fun j y E hy hP => ?_) (fun j E hP => ?_) (fun s' u E hP M' => ?_)
  · refine eq_of_wp ?_
    walk_at "go"
    refine wp_eq (hixB _) ?_
    refine wp_mb (wp_eq (index_at rfl rfl hfi) ?_)
    exact wp_eq (seq_ix (xs := locs (b + oB) n) rfl (atI_nat (locs_get hkn))) ⟨rfl, rfl⟩
  · rw [gset_self]
    show Br S w (3 * m) _ (A ++ [])
    rw [List.append_nil]
    exact hBr
  · obtain ⟨h1, _⟩ := hP
    have hym := List.mem_of_getElem? hy
    refine ⟨?_, (List.getElem?_eq_some_iff.mp hy).1⟩
    have h3 := h1.add hkk (D := E) (by rw [tabs_get hkn, gset_at]) (hw y hym) (hx.rc y hym).2
    rw [← tabs_set hkn, gset_gset] at h3
    rw [brt_take hy, ← List.append_assoc]
    exact h3
  · obtain ⟨h1, h2⟩ := hP
    have := (h1.ok E (List.mem_of_getElem? (i := kk) (by rw [tabs_get hkn, gset_at]))).len
    have := hx.len
    omega
  clear M
  obtain ⟨h1, _⟩ := hP
  rw [List.take_length] at h1
  have hxl := hx.len
  have hbr1 := hBr' (gset G (oB + kk) E) (h1.mono (by omega)) (fun k hk => gset_ne (by omega))
  have hG1 : ∀ j, 2 * n ≤ j → gset G (oB + kk) E j = G j := fun j hj => gset_ne (by omega)
  generalize gset G (oB + kk) E = G1 at M' hbr1 hG1
  walk_at "nk"
  clear hK h1
  walk_at "go"
  rw [List.length_map]
  refine wp_pos (okR (by omega)) ?_
  walk_at "go"
  refine forGo_wp (its := ⟨rng 0 (S.length : Int), none⟩) (fun k env s => ∃ G2 u7 u18 u19, env = [e0, some (.loc p), e2, some ln, some (mksP Mk), some (rowsL S), e6, u7, some (.lst [rowsL R0, rowsL R1]), some (bankP b 0 n n), e10, some (bankP b (2 * n) (3 * n) n), some (.lst (locs (b + 4 * n) n)), some (.loc (b + 5 * n)), u14, some (rowP x), some (.int x.1), some (.lst (T.map chP)), u18, u19] ∧ Mem p b (5 * n) G2 (rows ++ [x]) s ∧ (∀ j, j < 2 * n → G2 j = G1 j) ∧ (∀ j q, S[j]? = some q → j < k → At Pr Tm w0 w1 n (3 * m + 3) j q G2 A0' A1') ∧ (∀ j q, S[j]? = some q → k ≤ j → At Pr Tm w0 w1 n (3 * m) j q G2 A0 A1)) _ (fun k y env s hy hI => ?_) (fun env s hI => ?_) ⟨G1, _, _, _, rfl, M', fun _ _ => rfl, fun j q _ hj => absurd hj (Nat.not_lt_zero _), fun j q hq _ => (I.at' j q hq).congr (hG1 _ (by omega)) (hG1 _ (by omega)) (hG1 _ (by omega))⟩
  · obtain ⟨G2, v7, v18, v19, rfl, M2, g1, g2, g3⟩ := hI
    obtain ⟨hk, rfl⟩ := rng_at hy
    have hq : S[k]? = some S[k] := List.getElem?_eq_getElem hk
    refine ⟨Its.ok_none, wp_eq rfl ?_⟩
    refine wp_mono (spot_wp W M2 hn hq hx hside (by omega) (g3 k _ hq (Nat.le_refl _)) (fun y hy => (hTok y hy).2.1.1) hTl hw (fun z => hstep _ z)) fun f s3 hR => ?_
    obtain ⟨G3, x18, x19, rfl, M3, a3, out⟩ := hR
    refine ⟨G3, _, _, _, rfl, M3, fun j hj => ?_, fun j q hjq hj => ?_, fun j q hjq hj => ?_⟩
    · rw [out j (by omega) (by omega) (by omega), g1 j hj]
    · by_cases e : j = k
      · subst e
        rw [hq] at hjq
        cases hjq
        exact a3
      · have hjn := (List.getElem?_eq_some_iff.mp hjq).1
        exact (g2 j q hjq (by omega)).congr (out _ (by omega) (by omega) (by omega)) (out _ (by omega) (by omega) (by omega)) (out _ (by omega) (by omega) (by omega))
    · have hjn := (List.getElem?_eq_some_iff.mp hjq).1
      exact (g3 j q hjq (by omega)).congr (out _ (by omega) (by omega) (by omega)) (out _ (by omega) (by omega) (by omega)) (out _ (by omega) (by omega) (by omega))
  · obtain ⟨G2, v7, v18, v19, rfl, M2, g1, g2, g3⟩ := hI
    rw [show (Its.mk (rng 0 (S.length : Int)) none).items.length = S.length from rng_len] at g2
    refine ⟨Its.ok_none, G2, _, _, _, _, _, _, _, _, _, rfl, M2, by rw [List.length_append]; show rows.length + 1 = m + 1; omega, fun y hy => ?_, ?_, ?_, fun k q hq => g2 k q hq (List.getElem?_eq_some_iff.mp hq).1⟩
    · rcases List.mem_append.mp hy with hy | hy
      · exact I.ok y hy
      · rw [List.mem_singleton] at hy; subst hy; exact hx
    · rw [tabs_congr fun k hk => g1 (0 + k) (by omega)]
      exact hbr1.1
    · rw [tabs_congr fun k hk => g1 (n + k) (by omega)]
      exact hbr1.2
end DL

namespace DL
open PySem L2
local macro_rules | `(tactic| walk_at "go") => `(tactic| repeat (first | refine wp_mb ?_ | with_reducible refine wp_mul (by first | assumption | (exact okMul_iff.mpr (by omega))) ?_ | with_reducible refine wp_mod (by first | assumption | (exact okMod_iff.mpr (by omega))) ?_ | with_reducible refine wp_div (by first | assumption | (exact okDiv_iff.mpr (by omega))) ?_ | with_reducible refine wp_pow (by first | assumption | (exact okPow_iff.mpr (by decide))) ?_ | ((with_reducible refine wp_set ?_ ?_ ?_); (focus rfl); (focus first | exact tT_lb | exact lb_int _ _ | exact lb_bl _ _ | exact lb_non _ | assumption)) | refine wp_eq rfl ?_))
local macro_rules | `(tactic| walk_at "st") => `(tactic| ((first | (refine wp_seqK ?_; intro K hK) | skip); walk_at "go"))
local macro_rules | `(tactic| walk_at "nx") => `(tactic| ((try dsimp only [List.set_cons_zero, List.set_cons_succ]); refine wp_nx (by assumption) ?_; walk_at "st"))
local macro_rules | `(tactic| walk_at "nk") => `(tactic| ((try dsimp only [List.set_cons_zero, List.set_cons_succ]); refine wp_nx (by assumption) ?_))
/-! W24 of k28: the law -/
theorem pool_keep {p : Nat} {s s' : Sto} (h : Pool p s) (k : ∀ l c, s.cs l = some c → s'.cs l = some c) : Pool p s' := by
  obtain ⟨P, hP, h2⟩ := h
  exact ⟨P, k _ _ hP, h2⟩
theorem rowsL_lb {n : Nat} {S : List (List Int)} : (rowsL S).lb n = true := lst_lb (lbs_map (fun _ => tT_lb) S)
theorem settle_rows {p : Nat} {st st' : Sto} (d : Dr p st st') {R : List (List Int)} : settle st.nxt (.loc st'.nxt) (st'.alloc (.lst (R.map tT))) = some (rowsL R, st') := settle_dr d (lbs_map (fun _ => tT_lb) R)
theorem spots_ne {Mk : List (List Int)} (h : ∀ m ∈ Mk, m ≠ []) : spotsOf Mk ≠ [] := by
  have key : ∀ (l : List (List Int)) (S : List (List Int)), (∀ m ∈ l, m ≠ []) → S ≠ [] → l.foldl (fun S m => S.flatMap fun s => m.map fun x => s ++ [x]) S ≠ [] := by
    intro l
    induction l with
    | nil => intro S _ h; exact h
    | cons m l ih =>
      intro S hm hS
      rw [List.foldl_cons]
      refine ih _ (fun x hx => hm x (List.mem_cons_of_mem _ hx)) ?_
      obtain ⟨s, S', rfl⟩ := List.exists_cons_of_ne_nil hS
      obtain ⟨x, m', rfl⟩ := List.exists_cons_of_ne_nil (hm m List.mem_cons_self)
      rw [List.flatMap_cons, List.map_cons]
      exact List.cons_ne_nil _ _
  exact key Mk [[]] h (List.cons_ne_nil _ _)
theorem lstd_nil : ∀ {S : List (List Int)} {Ds : List Tab}, (∀ D ∈ Ds, D = []) → lstd S Ds = []
  | [], _, _ => rfl
  | _ :: _, [], _ => rfl
  | t :: S, D :: Ds, h => by
    show lst1 t D ++ lstd S Ds = []
    rw [h D List.mem_cons_self, lstd_nil fun E hE => h E (List.mem_cons_of_mem _ hE), List.append_nil]
    exact List.length_eq_zero_iff.mp lst1_len
theorem br_nil {S : List (List Int)} {w n o : Nat} (hn : S.length = n) : Br S w 0 (tabs (fun _ => []) o n) [] := by
  have h : ∀ D ∈ tabs (fun _ => []) o n, D = [] := fun D hD => by
    obtain ⟨k, _, rfl⟩ := List.mem_map.mp hD
    rfl
  refine ⟨by rw [tabs_len, hn], fun D hD => ⟨fun _ => 0, by rw [h D hD]; exact Tb.nil⟩, fun key => ?_, fun D hD => by rw [h D hD]; exact Bdd.nil, ?_⟩
  · rw [lstd_nil h]
  · rw [lstd_nil h]
    exact Nat.le_refl _
theorem inv_nil {Pr : List (Nat × Nat)} {Tm : List (Sd × Nat)} {S R0 R1 : List (List Int)} {w0 w1 n : Nat} (hn : S.length = n) : Inv28 Pr Tm S R0 R1 w0 w1 n 0 (fun _ => []) [] [] [] :=
  ⟨rfl, fun x z => (by cases z), br_nil hn, br_nil hn, fun k q _ => ⟨Tb.nil, Bdd.nil, Tb.nil, Bdd.nil, Tb.nil, Nat.zero_le _⟩⟩
set_option maxHeartbeats 8000000 in
theorem law_true : ∀ ns : List Int, ns.length ≤ 63 → ∃ st, f_law [.ro (ns.map .int)] st0 = some (.bl true, st) := by
  intro ns hns
  refine (fun (z : wp (f_law [.ro (ns.map .int)] st0) fun v _ => v = .bl true) => ?_) ?_
  · obtain ⟨v, s, e, rfl⟩ := z
    exact ⟨s, e⟩
  unfold f_law
  refine wp_runF rfl ?_
  show wp (D_law [some (.ro (ns.map .int)), none, none, none, none, none, none, none, none, none, none, none, none, none, none, none, none, none, none, none] st0) _
  unfold D_law
  refine wp_seqK ?_
  intro K hK
  walk_at "go"
  refine pool_wp hns fun P hP2 => ?_
  have hP : Pool st0.nxt (st0.alloc (.lst (P.map .int))) := pool_new hP2
  walk_at "go"
  walk_at "nk"
  clear hK
  generalize st0.alloc (.lst (P.map .int)) = s at hP ⊢
  generalize st0.nxt = p at hP ⊢
  -- wide
  refine wp_seqK ?_
  intro K hK
  walk_at "go"
  refine draw_wp hP (by decide) fun a0 s1 a00 a01 d => ?_
  refine wp_set (by rw [d.nxt]) (lb_int _ _) ?_
  replace hP := hP.dr d
  clear d
  walk_at "go"
  refine draw_wp hP (by decide) fun a1 s2 a10 a11 d => ?_
  refine wp_set (by rw [d.nxt]) (lb_int _ _) ?_
  replace hP := hP.dr d
  clear d
  obtain ⟨w0, e0, p0⟩ : ∃ w0 : Nat, 1 + a0 = (w0 : Int) ∧ 1 ≤ w0 ∧ w0 ≤ 4 := ⟨(1 + a0).toNat, by omega, by omega, by omega⟩
  obtain ⟨w1, e1, p1⟩ : ∃ w1 : Nat, 1 + a1 = (w1 : Int) ∧ 1 ≤ w1 ∧ w1 ≤ 4 := ⟨(1 + a1).toNat, by omega, by omega, by omega⟩
  walk_at "go"
  rw [e0, e1]
  clear e0 e1 a00 a01 a10 a11
  walk_at "nk"
  clear hK
  -- line
  refine wp_seqK ?_
  intro K hK
  walk_at "go"
  refine kline_wp hP p0 p1 fun ln Pr Tm s3 wl wpr wtm wlow wtl wlb d => ?_
  refine wp_set (by rw [d.nxt]) (PV.lb_mono (Nat.zero_le _) wlb) ?_
  replace hP := hP.dr d
  clear d
  walk_at "go"
  walk_at "nk"
  clear hK
  -- marks
  refine wp_seqK ?_
  intro K hK
  walk_at "go"
  refine kmarks_wp hP fun Mk s4 mo d => ?_
  refine wp_settle (settle_dr d (lbs_map (f := fun m : List Int => PV.lst (m.map .int)) (fun m => lst_lb ints_lb) Mk)) ?_
  replace hP := hP.dr d
  clear d
  walk_at "go"
  walk_at "nk"
  clear hK
  -- spots
  refine wp_seqK ?_
  intro K hK
  walk_at "go"
  refine kspots_wp mo.n0 mo.n4 (fun m hm => (mo.ok m hm).2) ?_
  refine wp_settle (settle_new (lbs_map (fun _ => tT_lb) _)) ?_
  walk_at "go"
  walk_at "nk"
  clear hK
  have nS : spotsOf Mk ≠ [] := spots_ne fun m hm => (mo.ok m hm).1
  have hSok : ∀ t ∈ spotsOf Mk, InMk Mk t := spotsOf_ok
  have hSz : (spotsOf Mk).length ≤ 6561 := Nat.le_trans (spots_len (w := 9) fun m hm => (mo.ok m hm).2) (Nat.le_trans (Nat.pow_le_pow_right (by decide) mo.n4) (by decide))
  generalize spotsOf Mk = S at nS hSok hSz ⊢
  -- values
  refine wp_seqK ?_
  intro K hK
  walk_at "go"
  refine draw_wp hP (by decide) fun a s5 a0 a1 d => ?_
  refine wp_set (by rw [d.nxt]) (lb_int _ _) ?_
  replace hP := hP.dr d
  clear d
  obtain ⟨v, ev, v1, v3⟩ : ∃ v : Nat, 1 + a = (v : Int) ∧ 1 ≤ v ∧ v ≤ 3 := ⟨(1 + a).toNat, by omega, by omega, by omega⟩
  walk_at "go"
  rw [ev]
  refine wp_pos (okR (by omega)) ?_
  walk_at "go"
  refine lcGo_wp (its := ⟨rng 0 (v : Int), none⟩) (fun k done s' => Dr p s5 s' ∧ ∃ V : List Int, done = V.map .int ∧ V.length = k) _ (fun k x done s' hx hI => ?_) (fun done s' hI => ?_) ⟨.refl hP, [], rfl, rfl⟩
  · obtain ⟨d, V, rfl, rfl⟩ := hI
    obtain ⟨hk, rfl⟩ := rng_at hx
    refine ⟨Its.ok_none, wp_eq rfl (wp_eq rfl ?_)⟩
    rw [if_pos rfl]
    walk_at "go"
    refine draw_wp (hP.dr d) (by decide) fun r s3 _ _ d3 => ?_
    refine wp_set (by rw [d3.nxt]) (lb_int _ _) ?_
    exact ⟨d.trans d3, V ++ [r], by rw [List.map_append]; rfl, by rw [List.length_append]; rfl⟩
  obtain ⟨d, V, rfl, hV⟩ := hI
  have hV : V.length = v := by rw [hV]; exact rng_len
  refine ⟨Its.ok_none, ?_⟩
  replace hP := hP.dr d
  clear d
  refine wp_eq (mkV_eq (okL (by rw [List.length_map]; omega))) ?_
  walk_at "go"
  walk_at "nk"
  clear hK
  have nV : V ≠ [] := fun z => by rw [z, List.length_nil] at hV; omega
  clear ev
  -- records
  refine wp_seqK ?_
  intro K hK
  walk_at "go"
  refine krecords_wp hP nV (by omega) fun R0 s6 n0 _ r0 d => ?_
  refine wp_settle (settle_rows d) ?_
  replace hP := hP.dr d
  clear d
  walk_at "go"
  refine krecords_wp hP nV (by omega) fun R1 s7 n1 _ r1 d => ?_
  refine wp_settle (settle_rows d) ?_
  replace hP := hP.dr d
  clear d
  walk_at "go"
  walk_at "nk"
  clear hK
  have W : LW ln Pr Tm Mk S R0 R1 w0 w1 := ⟨wl, wpr, wtm, wlow, wtl, wlb, mo, hSok, hSz, r0, r1, p0, p1⟩
  have hpl := hP.lt
  clear hSok r0 r1 wl wpr wtm wlow wtl wlb mo
  -- brought
  refine wp_seqK ?_
  intro K hK
  refine wp_mb (wp_mb (wp_mb ?_))
  refine bank_wp (S := S) rfl (by omega) fun s8 x8 k8 c8 => ?_
  refine wp_mb (wp_mb ?_)
  refine bank_wp (S := S) rfl (by omega) fun s9 x9 k9 c9 => ?_
  walk_at "go"
  walk_at "nk"
  clear hK
  -- so far
  refine wp_seqK ?_
  intro K hK
  refine wp_mb (wp_mb (wp_mb ?_))
  refine bank_wp (S := S) rfl (by omega) fun s10 x10 k10 c10 => ?_
  refine wp_mb (wp_mb ?_)
  refine bank_wp (S := S) rfl (by omega) fun s11 x11 k11 c11 => ?_
  walk_at "go"
  walk_at "nk"
  clear hK
  -- sums
  refine wp_seqK ?_
  intro K hK
  refine wp_mb ?_
  refine bank_wp (S := S) rfl (by omega) fun s12 x12 k12 c12 => ?_
  walk_at "go"
  walk_at "nk"
  clear hK
  refine wp_seqK ?_
  intro K hK
  walk_at "go"
  walk_at "nk"
  clear hK
  obtain ⟨n, hn⟩ : ∃ n, S.length = n := ⟨_, rfl⟩
  obtain ⟨b, hb⟩ : ∃ b, s7.nxt = b := ⟨_, rfl⟩
  rw [hn] at x8 x9 x10 x11 x12 c8 c9 c10 c11 c12 ⊢
  have y8 : s8.nxt = b + n := by omega
  have y9 : s9.nxt = b + 2 * n := by omega
  have y10 : s10.nxt = b + 3 * n := by omega
  have y11 : s11.nxt = b + 4 * n := by omega
  have y12 : s12.nxt = b + 5 * n := by omega
  rw [hb] at c8
  rw [y8] at c9
  rw [y9] at c10
  rw [y10] at c11
  rw [y11] at c12
  have M0 : Mem p b (5 * n) (fun _ => []) [] (s12.alloc (.lst [])) := by
    have hP12 : Pool p s12 := pool_keep hP fun l c h => k12 _ _ (k11 _ _ (k10 _ _ (k9 _ _ (k8 _ _ h))))
    refine ⟨hP12.alloc, fun i hi => ⟨0, ?_⟩, by rw [← y12]; exact Sto.alloc_get rfl, by omega⟩
    rw [Sto.alloc_ne (by omega)]
    by_cases i1 : i < n
    · exact k12 _ _ (k11 _ _ (k10 _ _ (k9 _ _ (c8 i i1))))
    · by_cases i2 : i < 2 * n
      · have := k12 _ _ (k11 _ _ (k10 _ _ (c9 (i - n) (by omega))))
        rwa [show b + n + (i - n) = b + i by omega] at this
      · by_cases i3 : i < 3 * n
        · have := k12 _ _ (k11 _ _ (c10 (i - 2 * n) (by omega)))
          rwa [show b + 2 * n + (i - 2 * n) = b + i by omega] at this
        · by_cases i4 : i < 4 * n
          · have := k12 _ _ (c11 (i - 3 * n) (by omega))
            rwa [show b + 3 * n + (i - 3 * n) = b + i by omega] at this
          · have := c12 (i - 4 * n) (by omega)
            rwa [show b + 4 * n + (i - 4 * n) = b + i by omega] at this
  rw [hb, y8, y9, y10, y11, y12]
  clear x8 x9 x10 x11 x12 c8 c9 c10 c11 c12 k8 k9 k10 k11 k12 y8 y9 y10 y11
  generalize s12.alloc (.lst []) = t0 at M0
  refine wp_seqK ?_
  intro K hK
  walk_at "go"
  refine draw_wp M0.pool (by decide) fun r t1 _ _ d => ?_
  refine wp_set (by rw [d.nxt]) (lb_int _ _) ?_
  replace M0 := M0.dr d
  clear d
  walk_at "go"
  rw [eqv_int]
  obtain ⟨q, hq, q1, q2⟩ : ∃ q : Int, opIx (.lst [.int 8, .int 13]) (.int (if ((r == 0) != false) = true then 1 else 0)) t1 = some (.int q, t1) ∧ 0 < q ∧ q ≤ 13 := by
    cases (r == 0)
    · exact ⟨8, rfl, by decide, by decide⟩
    · exact ⟨13, rfl, by decide, by decide⟩
  refine wp_eq hq ?_
  walk_at "go"
  refine draw_wp M0.pool q1 fun r2 t2 r20 r21 d => ?_
  refine wp_set (by rw [d.nxt]) (lb_int _ _) ?_
  replace M0 := M0.dr d
  clear d
  obtain ⟨T, hT, hT15⟩ : ∃ T : Nat, 2 + r2 = (T : Int) ∧ T ≤ 15 := ⟨(2 + r2).toNat, by omega, by omega⟩
  walk_at "go"
  rw [hT]
  refine wp_pos (okR (by omega)) ?_
  walk_at "go"
  refine forGo_wp (its := ⟨rng 0 (T : Int), none⟩) (fun k env s => ∃ G rows A0 A1 u7 u14 u15 u16 u17 u18 u19, env = [some (.ro (ns.map PV.int)), some (.loc p), some (.tup [nI w0, nI w1]), some ln, some (mksP Mk), some (rowsL S), some (.lst (V.map .int)), u7, some (.lst [rowsL R0, rowsL R1]), some (bankP b 0 n n), none, some (bankP b (2 * n) (3 * n) n), some (.lst (locs (b + 4 * n) n)), some (.loc (b + 5 * n)), u14, u15, u16, u17, u18, u19] ∧ Mem p b (5 * n) G rows s ∧ Inv28 Pr Tm S R0 R1 w0 w1 n k G rows A0 A1) _ (fun k x env s hx hI => ?_) (fun env s hI => ?_) ⟨_, _, _, _, _, _, _, _, _, _, _, rfl, M0, inv_nil hn⟩
  · clear M0
    obtain ⟨G, rows, A0, A1, u7, u14, u15, u16, u17, u18, u19, rfl, M, I⟩ := hI
    obtain ⟨hk, rfl⟩ := rng_at hx
    refine ⟨Its.ok_none, wp_eq rfl ?_⟩
    refine wp_mono (turn_wp W M I hn (by omega) n0 n1 nS) fun f s3 hR => ?_
    obtain ⟨G', rows', A0', A1', v7, v15, v16, v17, v18, v19, rfl, M', I'⟩ := hR
    exact ⟨G', rows', A0', A1', _, _, _, _, _, _, _, rfl, M', I'⟩
  · clear M0
    obtain ⟨G, rows, A0, A1, u7, u14, u15, u16, u17, u18, u19, rfl, M, I⟩ := hI
    refine ⟨Its.ok_none, ?_⟩
    walk_at "nk"
    walk_at "go"
    exact rfl
end DL

namespace DL
open PySem PySem.Spec PyProof.Rows L2
theorem all_mk {l : PySem.W.OpenLaw} {w : World} {K : PySem.W.Frag} {h : Heap} {mg : Str → Option Value} {fa : Addr} (X : K.In h) (G : h.Ns mainGlobals mg) (hfa : mg "law" = some (.ref fa))
    (hl : ∀ ns : List Int, ns.length ≤ 63 → ∃ st, f_law [.ro (ns.map .int)] st0 = some (.bl true, st))
    {f1 f2 f3 f4 f5 f6 f7 f8 f9 f10 f11 f12 f13 f14 f15 f16 f17 f18 f19 f20 f21 f22 f23 f24 f25 f26 f27 f28 f29 : Addr}
    {od1 an1 od2 an2 od3 an3 od4 an4 od5 an5 od6 an6 od7 an7 od8 an8 od9 an9 od10 an10 od11 an11 od12 an12 od13 an13 od14 an14 od15 an15 od16 an16 od17 an17 od18 an18 od19 an19 od20 an20 od21 an21 od22 an22 od23 an23 od24 an24 od25 an25 od26 an26 od27 an27 od28 an28 od29 an29 : Option Addr} {sl1 sl2 sl3 sl4 sl5 sl6 sl7 sl8 sl9 sl10 sl11 sl12 sl13 sl14 sl15 sl16 sl17 sl18 sl19 sl20 sl21 sl22 sl23 sl24 sl25 sl26 sl27 sl28 sl29 : Array (Option Value)} {oc1 kV1 dc1 pm1 cd1 ct1 oc2 kV2 dc2 pm2 cd2 ct2 oc3 kV3 dc3 pm3 cd3 ct3 oc4 kV4 dc4 pm4 cd4 ct4 oc5 kV5 dc5 pm5 cd5 ct5 oc6 kV6 dc6 pm6 cd6 ct6 oc7 kV7 dc7 pm7 cd7 ct7 oc8 kV8 dc8 pm8 cd8 ct8 oc9 kV9 dc9 pm9 cd9 ct9 oc10 kV10 dc10 pm10 cd10 ct10 oc11 kV11 dc11 pm11 cd11 ct11 oc12 kV12 dc12 pm12 cd12 ct12 oc13 kV13 dc13 pm13 cd13 ct13 oc14 kV14 dc14 pm14 cd14 ct14 oc15 kV15 dc15 pm15 cd15 ct15 oc16 kV16 dc16 pm16 cd16 ct16 oc17 kV17 dc17 pm17 cd17 ct17 oc18 kV18 dc18 pm18 cd18 ct18 oc19 kV19 dc19 pm19 cd19 ct19 oc20 kV20 dc20 pm20 cd20 ct20 oc21 kV21 dc21 pm21 cd21 ct21 oc22 kV22 dc22 pm22 cd22 ct22 oc23 kV23 dc23 pm23 cd23 ct23 oc24 kV24 dc24 pm24 cd24 ct24 oc25 kV25 dc25 pm25 cd25 ct25 oc26 kV26 dc26 pm26 cd26 ct26 oc27 kV27 dc27 pm27 cd27 ct27 oc28 kV28 dc28 pm28 cd28 ct28 oc29 kV29 dc29 pm29 cd29 ct29 : Value}
    (a1 : PySem.W.nsIn K mainGlobals "lub" = some (some (.ref f1))) (l1 : K.lookup f1 = some ⟨oc1, od1, .func (PySem.W.fnOf "lub" "lub" (defArgs s_lub) (defBody s_lub) (defScope s_lub) .none kV1 dc1 pm1 an1 cd1 ct1), sl1⟩) (c1 : PySem.W.codeIn K cd1 "lub" = true) (k1 : PySem.W.keepIn K (.ref f1) = true)
    (a2 : PySem.W.nsIn K mainGlobals "tidy" = some (some (.ref f2))) (l2 : K.lookup f2 = some ⟨oc2, od2, .func (PySem.W.fnOf "tidy" "tidy" (defArgs s_tidy) (defBody s_tidy) (defScope s_tidy) .none kV2 dc2 pm2 an2 cd2 ct2), sl2⟩) (c2 : PySem.W.codeIn K cd2 "tidy" = true) (k2 : PySem.W.keepIn K (.ref f2) = true)
    (a3 : PySem.W.nsIn K mainGlobals "key_of" = some (some (.ref f3))) (l3 : K.lookup f3 = some ⟨oc3, od3, .func (PySem.W.fnOf "key_of" "key_of" (defArgs s_key_of) (defBody s_key_of) (defScope s_key_of) .none kV3 dc3 pm3 an3 cd3 ct3), sl3⟩) (c3 : PySem.W.codeIn K cd3 "key_of" = true) (k3 : PySem.W.keepIn K (.ref f3) = true)
    (a4 : PySem.W.nsIn K mainGlobals "join_record" = some (some (.ref f4))) (l4 : K.lookup f4 = some ⟨oc4, od4, .func (PySem.W.fnOf "join_record" "join_record" (defArgs s_join_record) (defBody s_join_record) (defScope s_join_record) .none kV4 dc4 pm4 an4 cd4 ct4), sl4⟩) (c4 : PySem.W.codeIn K cd4 "join_record" = true) (k4 : PySem.W.keepIn K (.ref f4) = true)
    (a5 : PySem.W.nsIn K mainGlobals "changes_of" = some (some (.ref f5))) (l5 : K.lookup f5 = some ⟨oc5, od5, .func (PySem.W.fnOf "changes_of" "changes_of" (defArgs s_changes_of) (defBody s_changes_of) (defScope s_changes_of) .none kV5 dc5 pm5 an5 cd5 ct5), sl5⟩) (c5 : PySem.W.codeIn K cd5 "changes_of" = true) (k5 : PySem.W.keepIn K (.ref f5) = true)
    (a6 : PySem.W.nsIn K mainGlobals "pair_changes" = some (some (.ref f6))) (l6 : K.lookup f6 = some ⟨oc6, od6, .func (PySem.W.fnOf "pair_changes" "pair_changes" (defArgs s_pair_changes) (defBody s_pair_changes) (defScope s_pair_changes) .none kV6 dc6 pm6 an6 cd6 ct6), sl6⟩) (c6 : PySem.W.codeIn K cd6 "pair_changes" = true) (k6 : PySem.W.keepIn K (.ref f6) = true)
    (a7 : PySem.W.nsIn K mainGlobals "join_step" = some (some (.ref f7))) (l7 : K.lookup f7 = some ⟨oc7, od7, .func (PySem.W.fnOf "join_step" "join_step" (defArgs s_join_step) (defBody s_join_step) (defScope s_join_step) .none kV7 dc7 pm7 an7 cd7 ct7), sl7⟩) (c7 : PySem.W.codeIn K cd7 "join_step" = true) (k7 : PySem.W.keepIn K (.ref f7) = true)
    (a8 : PySem.W.nsIn K mainGlobals "_law_mix" = some (some (.ref f8))) (l8 : K.lookup f8 = some ⟨oc8, od8, .func (PySem.W.fnOf "_law_mix" "_law_mix" (defArgs s_law_mix) (defBody s_law_mix) (defScope s_law_mix) .none kV8 dc8 pm8 an8 cd8 ct8), sl8⟩) (c8 : PySem.W.codeIn K cd8 "_law_mix" = true) (k8 : PySem.W.keepIn K (.ref f8) = true)
    (a9 : PySem.W.nsIn K mainGlobals "_law_pool" = some (some (.ref f9))) (l9 : K.lookup f9 = some ⟨oc9, od9, .func (PySem.W.fnOf "_law_pool" "_law_pool" (defArgs s_law_pool) (defBody s_law_pool) (defScope s_law_pool) .none kV9 dc9 pm9 an9 cd9 ct9), sl9⟩) (c9 : PySem.W.codeIn K cd9 "_law_pool" = true) (k9 : PySem.W.keepIn K (.ref f9) = true)
    (a10 : PySem.W.nsIn K mainGlobals "_law_draw" = some (some (.ref f10))) (l10 : K.lookup f10 = some ⟨oc10, od10, .func (PySem.W.fnOf "_law_draw" "_law_draw" (defArgs s_law_draw) (defBody s_law_draw) (defScope s_law_draw) .none kV10 dc10 pm10 an10 cd10 ct10), sl10⟩) (c10 : PySem.W.codeIn K cd10 "_law_draw" = true) (k10 : PySem.W.keepIn K (.ref f10) = true)
    (a11 : PySem.W.nsIn K mainGlobals "_law_pick" = some (some (.ref f11))) (l11 : K.lookup f11 = some ⟨oc11, od11, .func (PySem.W.fnOf "_law_pick" "_law_pick" (defArgs s_law_pick) (defBody s_law_pick) (defScope s_law_pick) .none kV11 dc11 pm11 an11 cd11 ct11), sl11⟩) (c11 : PySem.W.codeIn K cd11 "_law_pick" = true) (k11 : PySem.W.keepIn K (.ref f11) = true)
    (a12 : PySem.W.nsIn K mainGlobals "_law_whole" = some (some (.ref f12))) (l12 : K.lookup f12 = some ⟨oc12, od12, .func (PySem.W.fnOf "_law_whole" "_law_whole" (defArgs s_law_whole) (defBody s_law_whole) (defScope s_law_whole) .none kV12 dc12 pm12 an12 cd12 ct12), sl12⟩) (c12 : PySem.W.codeIn K cd12 "_law_whole" = true) (k12 : PySem.W.keepIn K (.ref f12) = true)
    (a13 : PySem.W.nsIn K mainGlobals "_law_plain" = some (some (.ref f13))) (l13 : K.lookup f13 = some ⟨oc13, od13, .func (PySem.W.fnOf "_law_plain" "_law_plain" (defArgs s_law_plain) (defBody s_law_plain) (defScope s_law_plain) .none kV13 dc13 pm13 an13 cd13 ct13), sl13⟩) (c13 : PySem.W.codeIn K cd13 "_law_plain" = true) (k13 : PySem.W.keepIn K (.ref f13) = true)
    (a14 : PySem.W.nsIn K mainGlobals "_law_same" = some (some (.ref f14))) (l14 : K.lookup f14 = some ⟨oc14, od14, .func (PySem.W.fnOf "_law_same" "_law_same" (defArgs s_law_same) (defBody s_law_same) (defScope s_law_same) .none kV14 dc14 pm14 an14 cd14 ct14), sl14⟩) (c14 : PySem.W.codeIn K cd14 "_law_same" = true) (k14 : PySem.W.keepIn K (.ref f14) = true)
    (a15 : PySem.W.nsIn K mainGlobals "_law_leq" = some (some (.ref f15))) (l15 : K.lookup f15 = some ⟨oc15, od15, .func (PySem.W.fnOf "_law_leq" "_law_leq" (defArgs s_law_leq) (defBody s_law_leq) (defScope s_law_leq) .none kV15 dc15 pm15 an15 cd15 ct15), sl15⟩) (c15 : PySem.W.codeIn K cd15 "_law_leq" = true) (k15 : PySem.W.keepIn K (.ref f15) = true)
    (a16 : PySem.W.nsIn K mainGlobals "_law_add" = some (some (.ref f16))) (l16 : K.lookup f16 = some ⟨oc16, od16, .func (PySem.W.fnOf "_law_add" "_law_add" (defArgs s_law_add) (defBody s_law_add) (defScope s_law_add) .none kV16 dc16 pm16 an16 cd16 ct16), sl16⟩) (c16 : PySem.W.codeIn K cd16 "_law_add" = true) (k16 : PySem.W.keepIn K (.ref f16) = true)
    (a17 : PySem.W.nsIn K mainGlobals "_law_columns" = some (some (.ref f17))) (l17 : K.lookup f17 = some ⟨oc17, od17, .func (PySem.W.fnOf "_law_columns" "_law_columns" (defArgs s_law_columns) (defBody s_law_columns) (defScope s_law_columns) .none kV17 dc17 pm17 an17 cd17 ct17), sl17⟩) (c17 : PySem.W.codeIn K cd17 "_law_columns" = true) (k17 : PySem.W.keepIn K (.ref f17) = true)
    (a18 : PySem.W.nsIn K mainGlobals "_law_line" = some (some (.ref f18))) (l18 : K.lookup f18 = some ⟨oc18, od18, .func (PySem.W.fnOf "_law_line" "_law_line" (defArgs s_law_line) (defBody s_law_line) (defScope s_law_line) .none kV18 dc18 pm18 an18 cd18 ct18), sl18⟩) (c18 : PySem.W.codeIn K cd18 "_law_line" = true) (k18 : PySem.W.keepIn K (.ref f18) = true)
    (a19 : PySem.W.nsIn K mainGlobals "_law_marks" = some (some (.ref f19))) (l19 : K.lookup f19 = some ⟨oc19, od19, .func (PySem.W.fnOf "_law_marks" "_law_marks" (defArgs s_law_marks) (defBody s_law_marks) (defScope s_law_marks) .none kV19 dc19 pm19 an19 cd19 ct19), sl19⟩) (c19 : PySem.W.codeIn K cd19 "_law_marks" = true) (k19 : PySem.W.keepIn K (.ref f19) = true)
    (a20 : PySem.W.nsIn K mainGlobals "_law_spots" = some (some (.ref f20))) (l20 : K.lookup f20 = some ⟨oc20, od20, .func (PySem.W.fnOf "_law_spots" "_law_spots" (defArgs s_law_spots) (defBody s_law_spots) (defScope s_law_spots) .none kV20 dc20 pm20 an20 cd20 ct20), sl20⟩) (c20 : PySem.W.codeIn K cd20 "_law_spots" = true) (k20 : PySem.W.keepIn K (.ref f20) = true)
    (a21 : PySem.W.nsIn K mainGlobals "_law_records" = some (some (.ref f21))) (l21 : K.lookup f21 = some ⟨oc21, od21, .func (PySem.W.fnOf "_law_records" "_law_records" (defArgs s_law_records) (defBody s_law_records) (defScope s_law_records) .none kV21 dc21 pm21 an21 cd21 ct21), sl21⟩) (c21 : PySem.W.codeIn K cd21 "_law_records" = true) (k21 : PySem.W.keepIn K (.ref f21) = true)
    (a22 : PySem.W.nsIn K mainGlobals "_law_count" = some (some (.ref f22))) (l22 : K.lookup f22 = some ⟨oc22, od22, .func (PySem.W.fnOf "_law_count" "_law_count" (defArgs s_law_count) (defBody s_law_count) (defScope s_law_count) .none kV22 dc22 pm22 an22 cd22 ct22), sl22⟩) (c22 : PySem.W.codeIn K cd22 "_law_count" = true) (k22 : PySem.W.keepIn K (.ref f22) = true)
    (a23 : PySem.W.nsIn K mainGlobals "_law_packet" = some (some (.ref f23))) (l23 : K.lookup f23 = some ⟨oc23, od23, .func (PySem.W.fnOf "_law_packet" "_law_packet" (defArgs s_law_packet) (defBody s_law_packet) (defScope s_law_packet) .none kV23 dc23 pm23 an23 cd23 ct23), sl23⟩) (c23 : PySem.W.codeIn K cd23 "_law_packet" = true) (k23 : PySem.W.keepIn K (.ref f23) = true)
    (a24 : PySem.W.nsIn K mainGlobals "_law_listed" = some (some (.ref f24))) (l24 : K.lookup f24 = some ⟨oc24, od24, .func (PySem.W.fnOf "_law_listed" "_law_listed" (defArgs s_law_listed) (defBody s_law_listed) (defScope s_law_listed) .none kV24 dc24 pm24 an24 cd24 ct24), sl24⟩) (c24 : PySem.W.codeIn K cd24 "_law_listed" = true) (k24 : PySem.W.keepIn K (.ref f24) = true)
    (a25 : PySem.W.nsIn K mainGlobals "_law_numbers" = some (some (.ref f25))) (l25 : K.lookup f25 = some ⟨oc25, od25, .func (PySem.W.fnOf "_law_numbers" "_law_numbers" (defArgs s_law_numbers) (defBody s_law_numbers) (defScope s_law_numbers) .none kV25 dc25 pm25 an25 cd25 ct25), sl25⟩) (c25 : PySem.W.codeIn K cd25 "_law_numbers" = true) (k25 : PySem.W.keepIn K (.ref f25) = true)
    (a26 : PySem.W.nsIn K mainGlobals "_law_tidied" = some (some (.ref f26))) (l26 : K.lookup f26 = some ⟨oc26, od26, .func (PySem.W.fnOf "_law_tidied" "_law_tidied" (defArgs s_law_tidied) (defBody s_law_tidied) (defScope s_law_tidied) .none kV26 dc26 pm26 an26 cd26 ct26), sl26⟩) (c26 : PySem.W.codeIn K cd26 "_law_tidied" = true) (k26 : PySem.W.keepIn K (.ref f26) = true)
    (a27 : PySem.W.nsIn K mainGlobals "_law_ask" = some (some (.ref f27))) (l27 : K.lookup f27 = some ⟨oc27, od27, .func (PySem.W.fnOf "_law_ask" "_law_ask" (defArgs s_law_ask) (defBody s_law_ask) (defScope s_law_ask) .none kV27 dc27 pm27 an27 cd27 ct27), sl27⟩) (c27 : PySem.W.codeIn K cd27 "_law_ask" = true) (k27 : PySem.W.keepIn K (.ref f27) = true)
    (a28 : PySem.W.nsIn K mainGlobals "_law_joined" = some (some (.ref f28))) (l28 : K.lookup f28 = some ⟨oc28, od28, .func (PySem.W.fnOf "_law_joined" "_law_joined" (defArgs s_law_joined) (defBody s_law_joined) (defScope s_law_joined) .none kV28 dc28 pm28 an28 cd28 ct28), sl28⟩) (c28 : PySem.W.codeIn K cd28 "_law_joined" = true) (k28 : PySem.W.keepIn K (.ref f28) = true)
    (a29 : PySem.W.nsIn K mainGlobals "law" = some (some (.ref f29))) (l29 : K.lookup f29 = some ⟨oc29, od29, .func (PySem.W.fnOf "law" "law" (defArgs s_law) (defBody s_law) (defScope s_law) .none kV29 dc29 pm29 an29 cd29 ct29), sl29⟩) (c29 : PySem.W.codeIn K cd29 "law" = true) (k29 : PySem.W.keepIn K (.ref f29) = true)
    (z0 : PySem.W.nsIn K mainGlobals "len" = some none)
    (z1 : PySem.W.nsIn K mainGlobals "abs" = some none)
    (z2 : PySem.W.nsIn K mainGlobals "int" = some none)
    (z3 : PySem.W.nsIn K mainGlobals "max" = some none)
    (z4 : PySem.W.nsIn K mainGlobals "min" = some none)
    (z5 : PySem.W.nsIn K mainGlobals "tuple" = some none)
    (z6 : PySem.W.nsIn K mainGlobals "list" = some none)
    (z7 : PySem.W.nsIn K mainGlobals "sorted" = some none)
    (z8 : PySem.W.nsIn K mainGlobals "isinstance" = some none)
    (z9 : PySem.W.nsIn K mainGlobals "range" = some none)
    (z10 : PySem.W.nsIn K mainGlobals "bool" = some none)
    (z11 : PySem.W.nsIn K mainGlobals "str" = some none)
    (z12 : PySem.W.nsIn K mainGlobals "dict" = some none)
    (z13 : PySem.W.nsIn K mainGlobals "set" = some none)
    (z14 : PySem.W.nsIn K mainGlobals "reversed" = some none)
    (z15 : PySem.W.nsIn K mainGlobals "sum" = some none)
    (z16 : PySem.W.nsIn K mainGlobals "any" = some none)
    (z17 : PySem.W.nsIn K mainGlobals "enumerate" = some none)
    : ∃ fd : FuncData, (∀ (s : Shared) (v : Value), BindsTo s fd ⟨[v], []⟩ [("script", v)]) ∧ ∀ base : Heap, K.In base → base.Ns mainGlobals mg → FnOk l.prog w K mg base CX0 15 fa fd ["script"] (spLaw K) := by
  have e := hfa.symm.trans (PySem.W.mg_of X G a29)
  cases e
  have B : BsOk mg := by
    intro n hn
    have hn : n ∈ bs := List.contains_iff_mem.mp hn
    simp only [bs, List.mem_cons, List.not_mem_nil, or_false] at hn
    rcases hn with rfl | rfl | rfl | rfl | rfl | rfl | rfl | rfl | rfl | rfl | rfl | rfl | rfl | rfl | rfl | rfl | rfl | rfl
    · exact PySem.W.mg_none_of X G z0
    · exact PySem.W.mg_none_of X G z1
    · exact PySem.W.mg_none_of X G z2
    · exact PySem.W.mg_none_of X G z3
    · exact PySem.W.mg_none_of X G z4
    · exact PySem.W.mg_none_of X G z5
    · exact PySem.W.mg_none_of X G z6
    · exact PySem.W.mg_none_of X G z7
    · exact PySem.W.mg_none_of X G z8
    · exact PySem.W.mg_none_of X G z9
    · exact PySem.W.mg_none_of X G z10
    · exact PySem.W.mg_none_of X G z11
    · exact PySem.W.mg_none_of X G z12
    · exact PySem.W.mg_none_of X G z13
    · exact PySem.W.mg_none_of X G z14
    · exact PySem.W.mg_none_of X G z15
    · exact PySem.W.mg_none_of X G z16
    · exact PySem.W.mg_none_of X G z17
  refine ⟨PySem.W.fnOf "law" "law" (defArgs s_law) (defBody s_law) (defScope s_law) .none kV29 dc29 pm29 an29 cd29 ct29, fun s v => .of_eq rfl, fun base _ _ => ?_⟩
  have E1 := e_lub (P := l.prog) (w := w) (base := base) (fun_mk (st := s_lub) l1 c1 k1) (PySem.W.mg_of X G a1) B
  have E2 := e_tidy (P := l.prog) (w := w) (base := base) (fun_mk (st := s_tidy) l2 c2 k2) (PySem.W.mg_of X G a2) B
  have E3 := e_key_of (P := l.prog) (w := w) (base := base) (fun_mk (st := s_key_of) l3 c3 k3) (PySem.W.mg_of X G a3) B
  have E4 := e_join_record (P := l.prog) (w := w) (base := base) (fun_mk (st := s_join_record) l4 c4 k4) (PySem.W.mg_of X G a4) B
  have E5 := e_changes_of (P := l.prog) (w := w) (base := base) (fun_mk (st := s_changes_of) l5 c5 k5) (PySem.W.mg_of X G a5) B
  have E6 := e_pair_changes (P := l.prog) (w := w) (base := base) (fun_mk (st := s_pair_changes) l6 c6 k6) (PySem.W.mg_of X G a6) B E3 E4 E1
  have E7 := e_join_step (P := l.prog) (w := w) (base := base) (fun_mk (st := s_join_step) l7 c7 k7) (PySem.W.mg_of X G a7) B E5 E2 E6
  have E8 := e_law_mix (P := l.prog) (w := w) (base := base) (fun_mk (st := s_law_mix) l8 c8 k8) (PySem.W.mg_of X G a8) B
  have E9 := e_law_pool (P := l.prog) (w := w) (base := base) (fun_mk (st := s_law_pool) l9 c9 k9) (PySem.W.mg_of X G a9) B E8
  have E10 := e_law_draw (P := l.prog) (w := w) (base := base) (fun_mk (st := s_law_draw) l10 c10 k10) (PySem.W.mg_of X G a10) B E8
  have E11 := e_law_pick (P := l.prog) (w := w) (base := base) (fun_mk (st := s_law_pick) l11 c11 k11) (PySem.W.mg_of X G a11) B E10
  have E12 := e_law_whole (P := l.prog) (w := w) (base := base) (fun_mk (st := s_law_whole) l12 c12 k12) (PySem.W.mg_of X G a12) B
  have E13 := e_law_plain (P := l.prog) (w := w) (base := base) (fun_mk (st := s_law_plain) l13 c13 k13) (PySem.W.mg_of X G a13) B E12 6
  have E14 := e_law_same (P := l.prog) (w := w) (base := base) (fun_mk (st := s_law_same) l14 c14 k14) (PySem.W.mg_of X G a14) B E12 E13 6
  have E15 := e_law_leq (P := l.prog) (w := w) (base := base) (fun_mk (st := s_law_leq) l15 c15 k15) (PySem.W.mg_of X G a15) B
  have E16 := e_law_add (P := l.prog) (w := w) (base := base) (fun_mk (st := s_law_add) l16 c16 k16) (PySem.W.mg_of X G a16) B
  have E17 := e_law_columns (P := l.prog) (w := w) (base := base) (fun_mk (st := s_law_columns) l17 c17 k17) (PySem.W.mg_of X G a17) B E10
  have E18 := e_law_line (P := l.prog) (w := w) (base := base) (fun_mk (st := s_law_line) l18 c18 k18) (PySem.W.mg_of X G a18) B E17 E11 E10
  have E19 := e_law_marks (P := l.prog) (w := w) (base := base) (fun_mk (st := s_law_marks) l19 c19 k19) (PySem.W.mg_of X G a19) B E11 E10
  have E20 := e_law_spots (P := l.prog) (w := w) (base := base) (fun_mk (st := s_law_spots) l20 c20 k20) (PySem.W.mg_of X G a20) B
  have E21 := e_law_records (P := l.prog) (w := w) (base := base) (fun_mk (st := s_law_records) l21 c21 k21) (PySem.W.mg_of X G a21) B E10 E11
  have E22 := e_law_count (P := l.prog) (w := w) (base := base) (fun_mk (st := s_law_count) l22 c22 k22) (PySem.W.mg_of X G a22) B E11 E10
  have E23 := e_law_packet (P := l.prog) (w := w) (base := base) (fun_mk (st := s_law_packet) l23 c23 k23) (PySem.W.mg_of X G a23) B E10 E11 E22
  have E24 := e_law_listed (P := l.prog) (w := w) (base := base) (fun_mk (st := s_law_listed) l24 c24 k24) (PySem.W.mg_of X G a24) B
  have E25 := e_law_numbers (P := l.prog) (w := w) (base := base) (fun_mk (st := s_law_numbers) l25 c25 k25) (PySem.W.mg_of X G a25) B E12
  have E26 := e_law_tidied (P := l.prog) (w := w) (base := base) (fun_mk (st := s_law_tidied) l26 c26 k26) (PySem.W.mg_of X G a26) B E12 E25
  have E27 := e_law_ask (P := l.prog) (w := w) (base := base) (fun_mk (st := s_law_ask) l27 c27 k27) (PySem.W.mg_of X G a27) B E7 E26 E14
  have E28 := e_law_joined (P := l.prog) (w := w) (base := base) (fun_mk (st := s_law_joined) l28 c28 k28) (PySem.W.mg_of X G a28) B E16
  unfold f_law at hl
  exact law_end (fn_tr (k := 14) (fun_mk (st := s_law) l29 c29 k29) sc_law (GAll.cons (E9.mono (by decide)) (GAll.cons (E18.mono (by decide)) (GAll.cons (E19.mono (by decide)) (GAll.cons (E20.mono (by decide)) (GAll.cons (E10.mono (by decide)) (GAll.cons (E21.mono (by decide)) (GAll.cons (E23.mono (by decide)) (GAll.cons (E27.mono (by decide)) (GAll.cons (E24.mono (by decide)) (GAll.cons (E16.mono (by decide)) (GAll.cons (E15.mono (by decide)) (GAll.cons (E28.mono (by decide)) GAll.nil)))))))))))) B CAll.nil t_law) hl
end DL
open DL
open PySem PySem.W PyProof.Rows in
set_option maxRecDepth 100000 in
set_option maxHeartbeats 0 in
theorem PySem.Challenge.cw_deltastead_k28_whole_joins_kept_up_holds : PySem.Challenge.rw_deltastead_k28_whole_joins_kept_up.Holds := by
  w_on; o_law; k_head; (case hw => w_witness2)
  k_fill
  refine DL.walk (l := PySem.Challenge.rw_deltastead_k28_whole_joins_kept_up) (k := 15) (by decide) rfl rfl (fun w h Y => PySem.W.kIn_of Y) ?F
  case F =>
    intro w mg fa h KX G hmg
    refine' all_mk KX G hmg law_true ?a1 ?l1 ?c1 ?k1 ?a2 ?l2 ?c2 ?k2 ?a3 ?l3 ?c3 ?k3 ?a4 ?l4 ?c4 ?k4 ?a5 ?l5 ?c5 ?k5 ?a6 ?l6 ?c6 ?k6 ?a7 ?l7 ?c7 ?k7 ?a8 ?l8 ?c8 ?k8 ?a9 ?l9 ?c9 ?k9 ?a10 ?l10 ?c10 ?k10 ?a11 ?l11 ?c11 ?k11 ?a12 ?l12 ?c12 ?k12 ?a13 ?l13 ?c13 ?k13 ?a14 ?l14 ?c14 ?k14 ?a15 ?l15 ?c15 ?k15 ?a16 ?l16 ?c16 ?k16 ?a17 ?l17 ?c17 ?k17 ?a18 ?l18 ?c18 ?k18 ?a19 ?l19 ?c19 ?k19 ?a20 ?l20 ?c20 ?k20 ?a21 ?l21 ?c21 ?k21 ?a22 ?l22 ?c22 ?k22 ?a23 ?l23 ?c23 ?k23 ?a24 ?l24 ?c24 ?k24 ?a25 ?l25 ?c25 ?k25 ?a26 ?l26 ?c26 ?k26 ?a27 ?l27 ?c27 ?k27 ?a28 ?l28 ?c28 ?k28 ?a29 ?l29 ?c29 ?k29 ?z0 ?z1 ?z2 ?z3 ?z4 ?z5 ?z6 ?z7 ?z8 ?z9 ?z10 ?z11 ?z12 ?z13 ?z14 ?z15 ?z16 ?z17
    (case a1 => k_is)
    (case l1 => k_is)
    (case c1 => k_is)
    (case k1 => k_is)
    (case a2 => k_is)
    (case l2 => k_is)
    (case c2 => k_is)
    (case k2 => k_is)
    (case a3 => k_is)
    (case l3 => k_is)
    (case c3 => k_is)
    (case k3 => k_is)
    (case a4 => k_is)
    (case l4 => k_is)
    (case c4 => k_is)
    (case k4 => k_is)
    (case a5 => k_is)
    (case l5 => k_is)
    (case c5 => k_is)
    (case k5 => k_is)
    (case a6 => k_is)
    (case l6 => k_is)
    (case c6 => k_is)
    (case k6 => k_is)
    (case a7 => k_is)
    (case l7 => k_is)
    (case c7 => k_is)
    (case k7 => k_is)
    (case a8 => k_is)
    (case l8 => k_is)
    (case c8 => k_is)
    (case k8 => k_is)
    (case a9 => k_is)
    (case l9 => k_is)
    (case c9 => k_is)
    (case k9 => k_is)
    (case a10 => k_is)
    (case l10 => k_is)
    (case c10 => k_is)
    (case k10 => k_is)
    (case a11 => k_is)
    (case l11 => k_is)
    (case c11 => k_is)
    (case k11 => k_is)
    (case a12 => k_is)
    (case l12 => k_is)
    (case c12 => k_is)
    (case k12 => k_is)
    (case a13 => k_is)
    (case l13 => k_is)
    (case c13 => k_is)
    (case k13 => k_is)
    (case a14 => k_is)
    (case l14 => k_is)
    (case c14 => k_is)
    (case k14 => k_is)
    (case a15 => k_is)
    (case l15 => k_is)
    (case c15 => k_is)
    (case k15 => k_is)
    (case a16 => k_is)
    (case l16 => k_is)
    (case c16 => k_is)
    (case k16 => k_is)
    (case a17 => k_is)
    (case l17 => k_is)
    (case c17 => k_is)
    (case k17 => k_is)
    (case a18 => k_is)
    (case l18 => k_is)
    (case c18 => k_is)
    (case k18 => k_is)
    (case a19 => k_is)
    (case l19 => k_is)
    (case c19 => k_is)
    (case k19 => k_is)
    (case a20 => k_is)
    (case l20 => k_is)
    (case c20 => k_is)
    (case k20 => k_is)
    (case a21 => k_is)
    (case l21 => k_is)
    (case c21 => k_is)
    (case k21 => k_is)
    (case a22 => k_is)
    (case l22 => k_is)
    (case c22 => k_is)
    (case k22 => k_is)
    (case a23 => k_is)
    (case l23 => k_is)
    (case c23 => k_is)
    (case k23 => k_is)
    (case a24 => k_is)
    (case l24 => k_is)
    (case c24 => k_is)
    (case k24 => k_is)
    (case a25 => k_is)
    (case l25 => k_is)
    (case c25 => k_is)
    (case k25 => k_is)
    (case a26 => k_is)
    (case l26 => k_is)
    (case c26 => k_is)
    (case k26 => k_is)
    (case a27 => k_is)
    (case l27 => k_is)
    (case c27 => k_is)
    (case k27 => k_is)
    (case a28 => k_is)
    (case l28 => k_is)
    (case c28 => k_is)
    (case k28 => k_is)
    (case a29 => k_is)
    (case l29 => k_is)
    (case c29 => k_is)
    (case k29 => k_is)
    (case z0 => k_is)
    (case z1 => k_is)
    (case z2 => k_is)
    (case z3 => k_is)
    (case z4 => k_is)
    (case z5 => k_is)
    (case z6 => k_is)
    (case z7 => k_is)
    (case z8 => k_is)
    (case z9 => k_is)
    (case z10 => k_is)
    (case z11 => k_is)
    (case z12 => k_is)
    (case z13 => k_is)
    (case z14 => k_is)
    (case z15 => k_is)
    (case z16 => k_is)
    (case z17 => k_is)

