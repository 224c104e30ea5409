import PyProof.Rows.All
import Wide.All
import OpenK.AllK
import Wide.FinOn
import HandS.ForMost
import HandS.ForExc
import HandS.IsInst
import HandS.Conv
import HandS.TupAny
import HandS.Deep
import HandS.Wide
import HandS.CallSlots
import HandS.Text
import HandS.Rev
import HandS.Zip
import HandS.SetFor
import HandS.Strs
import KE.SortKeyHeap
import PySem.Challenge.RW_anytruths_k00_signs_and_rows
set_option Elab.async false
set_option linter.all false
set_option maxRecDepth 1000000
set_option maxHeartbeats 4000000
/-! values without a heap: data D, what stands for them (Rep), a frame's slots (SV), the state relation (SR) -/
namespace Av
open PySem L2

inductive D where
  | non | bl (b : Bool) | int (i : Int) | str (x : Str)
  | tup (xs : List D) | lst (xs : List D)
  | dic (kvs : List (D × D))
  | obj (c : Str) (fs : List (Str × D))
deriving Inhabited

def keyD : Key → D
  | .inl i => .int i
  | .inr x => .str x

/-- the world of a claim: the written part, the module's names -/
structure Wd where
  K : PySem.W.Frag
  mg : Str → Option Value

inductive Rep (W : Wd) (H : Hp) : D → V → Prop
  | non : Rep W H .non .non
  | bl (b : Bool) : Rep W H (.bl b) (.bl b)
  | int (i : Int) : Rep W H (.int i) (.int i)
  | str (x : Str) : Rep W H (.str x) (.str x)
  | tup {a : Addr} {ds : List D} {vs : List V} (h : SqT W.K H a vs) (n : ds.length = vs.length) (r : ∀ (i : Nat) d v, ds[i]? = some d → vs[i]? = some v → Rep W H d v) : Rep W H (.tup ds) (.ref a)
  | lst {a : Addr} {ds : List D} {vs : List V} (h : SqL W.K H a vs) (n : ds.length = vs.length) (r : ∀ (i : Nat) d v, ds[i]? = some d → vs[i]? = some v → Rep W H d v) : Rep W H (.lst ds) (.ref a)
  | dic {a : Addr} {ds : List (D × D)} {kvs : List (Key × V)} (h : H a = some (.dK kvs)) (n : ds.length = kvs.length) (k : ∀ (i : Nat) d v, ds[i]? = some d → kvs[i]? = some v → d.1 = keyD v.1)
      (r : ∀ (i : Nat) d v, ds[i]? = some d → kvs[i]? = some v → Rep W H d.2 v.2) : Rep W H (.dic ds) (.ref a)
  | dicT {a : Addr} {ds : List (D × D)} {kvs : List (List Key × V)} (h : H a = some (.dT kvs)) (n : ds.length = kvs.length) (k : ∀ (i : Nat) d v, ds[i]? = some d → kvs[i]? = some v → d.1 = .tup (v.1.map keyD))
      (r : ∀ (i : Nat) d v, ds[i]? = some d → kvs[i]? = some v → Rep W H d.2 v.2) : Rep W H (.dic ds) (.ref a)
  | obj {a C dx : Addr} {c : Str} {ds : List (Str × D)} {fs : List (Str × V)} (h : H a = some (.ins C dx fs)) (g : W.mg c = some (.ref C)) (n : ds.length = fs.length) (k : ∀ (i : Nat) d v, ds[i]? = some d → fs[i]? = some v → d.1 = v.1)
      (r : ∀ (i : Nat) d v, ds[i]? = some d → fs[i]? = some v → Rep W H d.2 v.2) : Rep W H (.obj c ds) (.ref a)

/-- item by item -/
structure RepL (W : Wd) (H : Hp) (ds : List D) (vs : List V) : Prop where
  n : ds.length = vs.length
  r : ∀ (i : Nat) d v, ds[i]? = some d → vs[i]? = some v → Rep W H d v

section
variable {W : Wd} {H H' : Hp} {d : D} {v : V} {ds es : List D} {vs ws : List V} {a : Addr}
theorem sqT_keep {K : PySem.W.Frag} {xs : List V} (e : Same H H') (h : SqT K H a xs) : SqT K H' a xs := by
  rcases h with (h | ⟨o, h⟩) | h
  · exact .inl (.inl (e _ _ h))
  · exact .inl (.inr ⟨o, e _ _ h⟩)
  · exact .inr h
theorem Rep.keep (e : Same H H') (r : Rep W H d v) : Rep W H' d v := by
  induction r with
  | non => exact .non
  | bl b => exact .bl b
  | int i => exact .int i
  | str x => exact .str x
  | tup h n r ih => exact .tup (sqT_keep e h) n ih
  | lst h n r ih => exact .lst (e.seq h) n ih
  | dic h n k r ih => exact .dic (e _ _ h) n k ih
  | dicT h n k r ih => exact .dicT (e _ _ h) n k ih
  | obj h g n k r ih => exact .obj (e _ _ h) g n k ih
theorem RepL.keep (e : Same H H') (r : RepL W H ds vs) : RepL W H' ds vs := ⟨r.n, fun i d v h1 h2 => (r.r i d v h1 h2).keep e⟩
theorem RepL.nil : RepL W H [] [] := ⟨rfl, fun i d v h => by simp at h⟩
theorem RepL.cons (h : Rep W H d v) (r : RepL W H ds vs) : RepL W H (d :: ds) (v :: vs) :=
  ⟨by simp [r.n], fun i d' v' h1 h2 => by
    cases i with
    | zero => simp at h1 h2; subst h1; subst h2; exact h
    | succ i => exact r.r i d' v' (by simpa using h1) (by simpa using h2)⟩
theorem RepL.append (r : RepL W H ds vs) (q : RepL W H es ws) : RepL W H (ds ++ es) (vs ++ ws) :=
  ⟨by simp [r.n, q.n], fun i d' v' h1 h2 => by
    by_cases hi : i < ds.length
    · rw [List.getElem?_append_left hi] at h1
      rw [List.getElem?_append_left (by rw [← r.n]; exact hi)] at h2
      exact r.r i d' v' h1 h2
    · rw [List.getElem?_append_right (by omega)] at h1
      rw [List.getElem?_append_right (by rw [← r.n]; omega), ← r.n] at h2
      exact q.r _ d' v' h1 h2⟩
theorem RepL.get {i : Nat} (r : RepL W H ds vs) (h : ds[i]? = some d) : ∃ v, vs[i]? = some v ∧ Rep W H d v := by
  have hi : i < vs.length := by rw [← r.n]; exact (List.getElem?_eq_some_iff.mp h).1
  exact ⟨vs[i], List.getElem?_eq_getElem hi, r.r i d _ h (List.getElem?_eq_getElem hi)⟩
theorem RepL.sub (r : RepL W H ds vs) (f : Nat → Nat) (n : Nat) (es : List D) (ws : List V) (h1 : es.length = n) (h2 : ws.length = n) (he : ∀ i, i < n → es[i]? = ds[f i]?) (hw : ∀ i, i < n → ws[i]? = vs[f i]?) : RepL W H es ws :=
  ⟨by rw [h1, h2], fun i d v e1 e2 => by
    have hi : i < n := by rw [← h1]; exact (List.getElem?_eq_some_iff.mp e1).1
    rw [he i hi] at e1
    rw [hw i hi] at e2
    exact r.r _ d v e1 e2⟩
theorem RepL.drop (r : RepL W H ds vs) (k : Nat) : RepL W H (ds.drop k) (vs.drop k) :=
  ⟨by simp [r.n], fun i d v e1 e2 => by
    rw [List.getElem?_drop] at e1 e2
    exact r.r _ d v e1 e2⟩
theorem RepL.take (r : RepL W H ds vs) (k : Nat) : RepL W H (ds.take k) (vs.take k) :=
  ⟨by simp [r.n], fun i d v e1 e2 => by
    rw [List.getElem?_take] at e1 e2
    split at e1
    · rename_i hk
      rw [if_pos hk] at e2
      exact r.r _ d v e1 e2
    · cases e1⟩
theorem RepL.reverse (r : RepL W H ds vs) : RepL W H ds.reverse vs.reverse :=
  ⟨by simp [r.n], fun i d v e1 e2 => by
    have hi : i < ds.length := by
      have := (List.getElem?_eq_some_iff.mp e1).1
      simpa using this
    rw [List.getElem?_reverse hi] at e1
    rw [List.getElem?_reverse (by rw [← r.n]; exact hi), ← r.n] at e2
    exact r.r _ d v e1 e2⟩
theorem RepL.set (r : RepL W H ds vs) (i : Nat) (h : Rep W H d v) : RepL W H (ds.set i d) (vs.set i v) :=
  ⟨by simp [r.n], fun j d' v' e1 e2 => by
    rw [List.getElem?_set] at e1 e2
    by_cases hij : i = j
    · subst hij
      rw [if_pos rfl] at e1 e2
      split at e1
      · split at e2
        · cases e1; cases e2; exact h
        · cases e2
      · cases e1
    · rw [if_neg hij] at e1 e2
      exact r.r _ _ _ e1 e2⟩
theorem RepL.tup {a : Addr} (r : RepL W H ds vs) (h : SqT W.K H a vs) : Rep W H (.tup ds) (.ref a) := .tup h r.n r.r
theorem RepL.lst {a : Addr} (r : RepL W H ds vs) (h : SqL W.K H a vs) : Rep W H (.lst ds) (.ref a) := .lst h r.n r.r
theorem Rep.tup_inv (r : Rep W H (.tup ds) v) : ∃ a vs, v = .ref a ∧ SqT W.K H a vs ∧ RepL W H ds vs := by
  cases r with
  | tup h n r => exact ⟨_, _, rfl, h, n, r⟩
theorem Rep.lst_inv (r : Rep W H (.lst ds) v) : ∃ a vs, v = .ref a ∧ SqL W.K H a vs ∧ RepL W H ds vs := by
  cases r with
  | lst h n r => exact ⟨_, _, rfl, h, n, r⟩
theorem Rep.int_inv {i : Int} (r : Rep W H (.int i) v) : v = .int i := by cases r; rfl
theorem Rep.bl_inv {b : Bool} (r : Rep W H (.bl b) v) : v = .bl b := by cases r; rfl
theorem Rep.str_inv {x : Str} (r : Rep W H (.str x) v) : v = .str x := by cases r; rfl
theorem Rep.non_inv (r : Rep W H .non v) : v = .non := by cases r; rfl
theorem RepL.nil_inv (r : RepL W H [] vs) : vs = [] := by
  have := r.n
  cases vs with
  | nil => rfl
  | cons _ _ => simp at this
theorem RepL.cons_inv (r : RepL W H (d :: ds) vs) : ∃ v ws, vs = v :: ws ∧ Rep W H d v ∧ RepL W H ds ws := by
  cases vs with
  | nil => have := r.n; simp at this
  | cons v ws => exact ⟨v, ws, rfl, r.r 0 d v rfl rfl, by have := r.n; simpa using this, fun i d' v' h1 h2 => r.r (i + 1) d' v' (by simpa using h1) (by simpa using h2)⟩
theorem RepL.ints : ∀ {ns : List Int} {vs : List V}, RepL W H (ns.map D.int) vs → vs = ns.map V.int
  | [], _, r => r.nil_inv
  | n :: ns, vs, r => by
    obtain ⟨v, ws, rfl, h, q⟩ := RepL.cons_inv (d := D.int n) (ds := ns.map D.int) r
    rw [h.int_inv, RepL.ints q]
    rfl
theorem RepL.of_ints (ns : List Int) : RepL W H (ns.map D.int) (ns.map V.int) :=
  ⟨by simp, fun i d v h1 h2 => by
    rw [List.getElem?_map] at h1 h2
    cases e : ns[i]? with
    | none => rw [e] at h1; cases h1
    | some n => rw [e] at h1 h2; cases h1; cases h2; exact .int n⟩
end

/-! no list, dict, object within -/
mutual
def D.imm : D → Bool
  | .non => true
  | .bl _ => true
  | .int _ => true
  | .str _ => true
  | .tup xs => D.imms xs
  | .lst _ => false
  | .dic _ => false
  | .obj _ _ => false
def D.imms : List D → Bool
  | [] => true
  | x :: r => x.imm && D.imms r
end
theorem D.imms_get : ∀ {ds : List D}, D.imms ds = true → ∀ {i : Nat} {d : D}, ds[i]? = some d → d.imm = true
  | [], _, i, d, e => by simp at e
  | x :: r, h, 0, d, e => by
    rw [D.imms, Bool.and_eq_true] at h
    simp at e; subst e; exact h.1
  | x :: r, h, i + 1, d, e => by
    rw [D.imms, Bool.and_eq_true] at h
    exact D.imms_get h.2 (by simpa using e)
theorem D.imm_tup {ds : List D} (h : (D.tup ds).imm = true) {i : Nat} {d : D} (e : ds[i]? = some d) : d.imm = true := by
  rw [D.imm] at h
  exact D.imms_get h e
theorem Rep.imm {W : Wd} {F H : Hp} {d : D} {v : V} (t : ∀ a xs, Rd H a (.tup xs) → F a = H a) (r : Rep W H d v) : d.imm = true → Rep W F d v := by
  induction r with
  | non => exact fun _ => .non
  | bl b => exact fun _ => .bl b
  | int i => exact fun _ => .int i
  | str x => exact fun _ => .str x
  | @tup a ds vs h n r ih =>
    intro hi
    refine .tup ?_ n fun i d v h1 h2 => ih i d v h1 h2 (D.imm_tup hi h1)
    rcases h with h | h
    · refine .inl ?_
      have e := t _ _ h
      unfold Rd at h ⊢
      rw [e]
      exact h
    · exact .inr h
  | lst h n r ih => intro hi; simp [D.imm] at hi
  | dic h n k r ih => intro hi; simp [D.imm] at hi
  | dicT h n k r ih => intro hi; simp [D.imm] at hi
  | obj h g n k r ih => intro hi; simp [D.imm] at hi

/-! ### slots and results -/
/-- what a slot holds: nothing | a shared value | a value lent by the caller | an own list (dict, object) | one that the caller hands over to be changed -/
inductive SV where
  | no | sh (d : D) | bor (d : D) | own (d : D) | io (d : D)
deriving Inhabited
/-- an expression's result: a shared value | a lent one | what stands in slot i | a new list (dict, object) that nobody else holds -/
inductive RV where
  | val (d : D) | bval (d : D) | slot (i : Nat) | fresh (d : D)
deriving Inhabited
/-- an error: its class, its fields -/
structure Xn where
  c : Str
  fs : List (Str × D)
inductive R (α : Type) where
  | ok (a : α) (sd : List SV)
  | exc (x : Xn) (sd : List SV)
  | fail
abbrev M (α : Type) := List SV → R α
def SV.d? : SV → Option D
  | .no => none
  | .sh d => some d
  | .bor d => some d
  | .own d => some d
  | .io d => some d
def RV.d? (sd : List SV) : RV → Option D
  | .val d => some d
  | .bval d => some d
  | .fresh d => some d
  | .slot i => (sd[i]?.getD .no).d?
/-- an own object at a: its own content -/
def OwnO (W : Wd) (F H : Hp) (a : Addr) : D → Prop
  | .lst ds => ∃ vs, H a = some (.lst vs) ∧ RepL W F ds vs
  | .dic ds => (∃ kvs : List (Key × V), H a = some (.dK kvs) ∧ ds.length = kvs.length ∧ (∀ (i : Nat) d v, ds[i]? = some d → kvs[i]? = some v → d.1 = keyD v.1) ∧ ∀ (i : Nat) d v, ds[i]? = some d → kvs[i]? = some v → Rep W F d.2 v.2) ∨
      ∃ kvs : List (List Key × V), H a = some (.dT kvs) ∧ ds.length = kvs.length ∧ (∀ (i : Nat) d v, ds[i]? = some d → kvs[i]? = some v → d.1 = .tup (v.1.map keyD)) ∧ ∀ (i : Nat) d v, ds[i]? = some d → kvs[i]? = some v → Rep W F d.2 v.2
  | .obj c ds => ∃ (C dx : Addr) (fs : List (Str × V)), H a = some (.ins C dx fs) ∧ W.mg c = some (.ref C) ∧ ds.length = fs.length ∧ (∀ (i : Nat) d v, ds[i]? = some d → fs[i]? = some v → d.1 = v.1) ∧ ∀ (i : Nat) d v, ds[i]? = some d → fs[i]? = some v → Rep W F d.2 v.2
  | _ => False
/-- what is fixed through a def's run: the world; the heap at the entry, its shared part, its steady part; the slots whose objects the caller hands over -/
structure Fx where

  H0 : Hp
  F0 : Hp
  G0 : Hp
  pin : List (Nat × Addr)
  hold : List (Addr × HO) := []
def SlotR (W : Wd) (fx : Fx) (F G H : Hp) (i : Nat) (σ : St) : SV → Prop
  | .no => True
  | .sh d => ∃ v, σ[i]? = some (some v) ∧ Rep W F d v
  | .bor d => ∃ v, σ[i]? = some (some v) ∧ Rep W G d v
  | .own d => ∃ a, σ[i]? = some (some (.ref a)) ∧ G a = none ∧ fx.H0 a = none ∧ OwnO W F H a d
  | .io d => ∃ a, (i, a) ∈ fx.pin ∧ σ[i]? = some (some (.ref a)) ∧ G a = none ∧ OwnO W F H a d
def SV.mine : SV → Bool
  | .own _ => true
  | .io _ => true
  | _ => false
/-- what a heap does: it grows, all tuples are shared -/
structure HR (fx : Fx) (F G H : Hp) : Prop where
  ff : Same fx.F0 F
  fn : ∀ a o, F a = some o → fx.F0 a = some o ∨ fx.H0 a = none
  gg : Same fx.G0 G
  gn : ∀ a o, G a = some o → fx.G0 a = some o ∨ fx.H0 a = none
  fg : Same F G
  gh : Same G H
  dom : ∀ a, H a = none → fx.H0 a = none
  tup : ∀ a xs, Rd H a (.tup xs) → F a = H a
  held : ∀ a o, (a, o) ∈ fx.hold → H a = some o ∧ G a = none ∧ fx.H0 a = none
structure SR (W : Wd) (fx : Fx) (F G H : Hp) (sd : List SV) (σ : St) : Prop extends HR fx F G H where
  len : sd.length = σ.length
  slot : ∀ i s, sd[i]? = some s → SlotR W fx F G H i σ s
  apart : ∀ (i j : Nat) (s s' : SV) (a : Addr), sd[i]? = some s → sd[j]? = some s' → s.mine = true → s'.mine = true → σ[i]? = some (some (V.ref a)) → σ[j]? = some (some (V.ref a)) → i = j
  free : ∀ (a : Addr) (o : HO), (a, o) ∈ fx.hold → ∀ (i : Nat) (s : SV), sd[i]? = some s → s.mine = true → σ[i]? ≠ some (some (V.ref a))
def RVR (W : Wd) (fx : Fx) (F G H : Hp) (sd : List SV) (σ : St) (rv : RV) (v : V) : Prop := match rv with
  | .val d => Rep W F d v
  | .bval d => Rep W G d v
  | .slot i => σ[i]? = some (some v)
  | .fresh d => ∃ a, v = .ref a ∧ G a = none ∧ fx.H0 a = none ∧ OwnO W F H a d ∧ (∀ (i : Nat) (s : SV), sd[i]? = some s → s.mine = true → σ[i]? ≠ some (some (V.ref a))) ∧ ∀ o, (a, o) ∉ fx.hold
/-- an error as it flies: its class's object, its own dict (where it has one) -/
def ExR (W : Wd) (F H : Hp) (x : Xn) (c : Value) (d : Option Addr) : Prop :=
  W.mg x.c = some c ∧ (x.fs = [] ∨ ∃ a fs, d = some a ∧ H a = some (.xd fs) ∧ fs.map (·.1) = x.fs.map (·.1) ∧ RepL W F (x.fs.map (·.2)) (fs.map (·.2)))
end Av

/-! how the state moves: a new object, a freeze; the judgements over data; variables, constants, two operands -/
namespace Av
open PySem L2

section
variable {W : Wd} {fx : Fx} {F G H F' G' H' : Hp} {sd : List SV} {σ : St} {a : Addr} {o : HO} {d : D} {v : V}
theorem OwnO.keepF (e : Same F F') (h : OwnO W F H a d) : OwnO W F' H a d := by
  cases d with
  | lst ds => obtain ⟨vs, h1, h2⟩ := h; exact ⟨vs, h1, h2.keep e⟩
  | dic ds =>
    rcases h with ⟨kvs, h1, h2, h3, h4⟩ | ⟨kvs, h1, h2, h3, h4⟩
    · exact .inl ⟨kvs, h1, h2, h3, fun i d v e1 e2 => (h4 i d v e1 e2).keep e⟩
    · exact .inr ⟨kvs, h1, h2, h3, fun i d v e1 e2 => (h4 i d v e1 e2).keep e⟩
  | obj c ds => obtain ⟨C, dx, fs, h1, h2, h3, h4, h5⟩ := h; exact ⟨C, dx, fs, h1, h2, h3, h4, fun i d v e1 e2 => (h5 i d v e1 e2).keep e⟩
  | _ => exact h
theorem OwnO.keepH (e : H' a = H a) (h : OwnO W F H a d) : OwnO W F H' a d := by
  cases d with
  | lst ds => obtain ⟨vs, h1, h2⟩ := h; exact ⟨vs, e.trans h1, h2⟩
  | dic ds =>
    rcases h with ⟨kvs, h1, h2, h3, h4⟩ | ⟨kvs, h1, h2, h3, h4⟩
    · exact .inl ⟨kvs, e.trans h1, h2, h3, h4⟩
    · exact .inr ⟨kvs, e.trans h1, h2, h3, h4⟩
  | obj c ds => obtain ⟨C, dx, fs, h1, h2, h3, h4, h5⟩ := h; exact ⟨C, dx, fs, e.trans h1, h2, h3, h4, h5⟩
  | _ => exact h
/-- an own object is read -/
theorem OwnO.rep (e : Same F H) (h : OwnO W F H a d) : Rep W H d (.ref a) := by
  cases d with
  | lst ds => obtain ⟨vs, h1, h2⟩ := h; exact (h2.keep e).lst (SqL.of h1)
  | dic ds =>
    rcases h with ⟨kvs, h1, h2, h3, h4⟩ | ⟨kvs, h1, h2, h3, h4⟩
    · exact .dic h1 h2 h3 fun i d v e1 e2 => (h4 i d v e1 e2).keep e
    · exact .dicT h1 h2 h3 fun i d v e1 e2 => (h4 i d v e1 e2).keep e
  | obj c ds => obtain ⟨C, dx, fs, h1, h2, h3, h4, h5⟩ := h; exact .obj h1 h2 h3 h4 fun i d v e1 e2 => (h5 i d v e1 e2).keep e
  | _ => exact h.elim
theorem OwnO.there (h : OwnO W F H a d) : ∃ o, H a = some o ∧ ∀ xs, ¬ Rd H a (.tup xs) := by
  have k : ∀ o : HO, H a = some o → (∀ xs, o ≠ .tup xs) → (∀ ob u, o ≠ .frz ob u) → ∃ o, H a = some o ∧ ∀ xs, ¬ Rd H a (.tup xs) := fun o e n1 n2 => ⟨o, e, fun xs r => by
    rcases r with r | ⟨ob, r⟩
    · rw [e] at r; exact n1 xs (Option.some.inj r)
    · rw [e] at r; exact n2 _ _ (Option.some.inj r)⟩
  cases d with
  | lst ds => obtain ⟨vs, h1, h2⟩ := h; exact k _ h1 (fun _ z => by cases z) (fun _ _ z => by cases z)
  | dic ds =>
    rcases h with ⟨kvs, h1, _⟩ | ⟨kvs, h1, _⟩
    · exact k _ h1 (fun _ z => by cases z) (fun _ _ z => by cases z)
    · exact k _ h1 (fun _ z => by cases z) (fun _ _ z => by cases z)
  | obj c ds => obtain ⟨C, dx, fs, h1, _⟩ := h; exact k _ h1 (fun _ z => by cases z) (fun _ _ z => by cases z)
  | _ => exact h.elim
theorem same_upd (h : H a = none) : Same H (upd H a o) := fun b u e => by
  rw [upd_ne (ne_of_none e h)]; exact e
theorem SR.fh (S : SR W fx F G H sd σ) : Same F H := S.fg.trans S.gh
theorem SR.freeF (S : SR W fx F G H sd σ) (h : H a = none) : F a = none := S.fh.free h
theorem SR.freeG (S : SR W fx F G H sd σ) (h : H a = none) : G a = none := S.gh.free h
/-- a slot's relation goes on when the shared parts grow and its own object stays -/
theorem SlotR.keep {i : Nat} {s : SV} (eF : Same F F') (eG : Same G G') (own : ∀ a, σ[i]? = some (some (.ref a)) → s.mine = true → G a = none → (∃ o, H a = some o) → H' a = H a ∧ G' a = none) (h : SlotR W fx F G H i σ s) : SlotR W fx F' G' H' i σ s := by
  cases s with
  | no => exact h
  | sh d => obtain ⟨v, h1, h2⟩ := h; exact ⟨v, h1, h2.keep eF⟩
  | bor d => obtain ⟨v, h1, h2⟩ := h; exact ⟨v, h1, h2.keep eG⟩
  | own d =>
    obtain ⟨a, h1, h2, h3, h4⟩ := h
    obtain ⟨o, ho, _⟩ := h4.there
    obtain ⟨e1, e2⟩ := own a h1 rfl h2 ⟨o, ho⟩
    exact ⟨a, h1, e2, h3, (h4.keepF eF).keepH e1⟩
  | io d =>
    obtain ⟨a, h0, h1, h2, h4⟩ := h
    obtain ⟨o, ho, _⟩ := h4.there
    obtain ⟨e1, e2⟩ := own a h1 rfl h2 ⟨o, ho⟩
    exact ⟨a, h0, h1, e2, (h4.keepF eF).keepH e1⟩
/-- a new object, nobody's yet -/
theorem SR.newOwn (S : SR W fx F G H sd σ) (h : H a = none) (ht : ∀ xs, o ≠ .tup xs) (hf : ∀ ob u, o ≠ .frz ob u) : SR W fx F G (upd H a o) sd σ where
  ff := S.ff
  fn := S.fn
  gg := S.gg
  gn := S.gn
  fg := S.fg
  gh := S.gh.trans (same_upd h)
  dom := fun b e => by
    by_cases hb : b = a
    · subst hb; rw [upd_same] at e; cases e
    · rw [upd_ne hb] at e; exact S.dom b e
  tup := fun b xs r => by
    by_cases hb : b = a
    · subst hb
      rcases r with r | ⟨ob, r⟩
      · rw [upd_same] at r; exact absurd (Option.some.inj r) (ht xs)
      · rw [upd_same] at r; exact absurd (Option.some.inj r) (hf _ _)
    · rw [upd_ne hb]
      exact S.tup b xs (by
        rcases r with r | ⟨ob, r⟩
        · rw [upd_ne hb] at r; exact .inl r
        · rw [upd_ne hb] at r; exact .inr ⟨ob, r⟩)
  held := fun b u hm => by
    obtain ⟨h1, h2, h3⟩ := S.held b u hm
    exact ⟨by rw [upd_ne (ne_of_none h1 h)]; exact h1, h2, h3⟩
  len := S.len
  slot := fun i s e => (S.slot i s e).keep (Same.refl _) (Same.refl _) fun b h1 _ h2 ⟨u, h3⟩ => ⟨upd_ne (ne_of_none h3 h), h2⟩
  apart := S.apart
  free := S.free
/-- a new object, shared -/
theorem SR.newSh (S : SR W fx F G H sd σ) (h : H a = none) : SR W fx (upd F a o) (upd G a o) (upd H a o) sd σ where
  ff := S.ff.trans (same_upd (S.freeF h))
  fn := fun b u e => by
    by_cases hb : b = a
    · subst hb; exact .inr (S.dom _ h)
    · rw [upd_ne hb] at e; exact S.fn b u e
  gg := S.gg.trans (same_upd (S.freeG h))
  gn := fun b u e => by
    by_cases hb : b = a
    · subst hb; exact .inr (S.dom _ h)
    · rw [upd_ne hb] at e; exact S.gn b u e
  fg := fun b u e => by
    by_cases hb : b = a
    · subst hb; rw [upd_same] at e ⊢; exact e
    · rw [upd_ne hb] at e ⊢; exact S.fg b u e
  gh := fun b u e => by
    by_cases hb : b = a
    · subst hb; rw [upd_same] at e ⊢; exact e
    · rw [upd_ne hb] at e ⊢; exact S.gh b u e
  dom := fun b e => by
    by_cases hb : b = a
    · subst hb; rw [upd_same] at e; cases e
    · rw [upd_ne hb] at e; exact S.dom b e
  tup := fun b xs r => by
    by_cases hb : b = a
    · subst hb; rw [upd_same, upd_same]
    · rw [upd_ne hb, upd_ne hb]
      exact S.tup b xs (by
        rcases r with r | ⟨ob, r⟩
        · rw [upd_ne hb] at r; exact .inl r
        · rw [upd_ne hb] at r; exact .inr ⟨ob, r⟩)
  held := fun b u hm => by
    obtain ⟨h1, h2, h3⟩ := S.held b u hm
    exact ⟨by rw [upd_ne (ne_of_none h1 h)]; exact h1, by rw [upd_ne (ne_of_none h1 h)]; exact h2, h3⟩
  len := S.len
  slot := fun i s e => (S.slot i s e).keep (same_upd (S.freeF h)) (same_upd (S.freeG h)) fun b h1 _ h2 ⟨u, h3⟩ => ⟨upd_ne (ne_of_none h3 h), by rw [upd_ne (ne_of_none h3 h)]; exact h2⟩
  apart := S.apart
  free := S.free
/-- what stands at a becomes shared -/
def frzH (F H : Hp) (a : Addr) : Hp := fun b => if b = a then H a else F b
theorem frzH_same : frzH F H a a = H a := by unfold frzH; rw [if_pos rfl]
theorem frzH_ne {b : Addr} (h : b ≠ a) : frzH F H a b = F b := by unfold frzH; rw [if_neg h]
theorem frz_same (h : F a = none) : Same F (frzH F H a) := fun b u e => by
  rw [frzH_ne (ne_of_none e h)]; exact e
theorem OwnO.frz (h : OwnO W F H a d) (hn : F a = none) : Rep W (frzH F H a) d (.ref a) := by
  have h' := h.keepF (frz_same (H := H) hn)
  cases d with
  | lst ds => obtain ⟨vs, h1, h2⟩ := h'; exact h2.lst (SqL.of (frzH_same.trans h1))
  | dic ds =>
    rcases h' with ⟨kvs, h1, h2, h3, h4⟩ | ⟨kvs, h1, h2, h3, h4⟩
    · exact .dic (frzH_same.trans h1) h2 h3 h4
    · exact .dicT (frzH_same.trans h1) h2 h3 h4
  | obj c ds => obtain ⟨C, dx, fs, h1, h2, h3, h4, h5⟩ := h'; exact .obj (frzH_same.trans h1) h2 h3 h4 h5
  | _ => exact h.elim
theorem HR.frz (S : HR fx F G H) (hg : G a = none) (h0 : fx.H0 a = none) (nh : ∀ o, (a, o) ∉ fx.hold) : HR fx (frzH F H a) (frzH G H a) H where
  ff := S.ff.trans (frz_same (S.fg.free hg))
  fn := fun b u e => by
    by_cases hb : b = a
    · subst hb; exact .inr h0
    · rw [frzH_ne hb] at e; exact S.fn b u e
  gg := S.gg.trans (frz_same hg)
  gn := fun b u e => by
    by_cases hb : b = a
    · subst hb; exact .inr h0
    · rw [frzH_ne hb] at e; exact S.gn b u e
  fg := fun b u e => by
    by_cases hb : b = a
    · subst hb; rw [frzH_same] at e ⊢; exact e
    · rw [frzH_ne hb] at e ⊢; exact S.fg b u e
  gh := fun b u e => by
    by_cases hb : b = a
    · subst hb; rw [frzH_same] at e; exact e
    · rw [frzH_ne hb] at e; exact S.gh b u e
  dom := S.dom
  tup := fun b xs r => by
    by_cases hb : b = a
    · subst hb; exact frzH_same
    · rw [frzH_ne hb]; exact S.tup b xs r
  held := fun b u hm => by
    obtain ⟨h1, h2, h3⟩ := S.held b u hm
    have hb : b ≠ a := fun z => by subst z; exact nh u hm
    exact ⟨h1, by rw [frzH_ne hb]; exact h2, h3⟩
/-- a fresh result becomes shared -/
theorem SR.frzFresh (S : SR W fx F G H sd σ) (hg : G a = none) (h0 : fx.H0 a = none) (no : ∀ (i : Nat) (s : SV), sd[i]? = some s → s.mine = true → σ[i]? ≠ some (some (V.ref a))) (nh : ∀ o, (a, o) ∉ fx.hold) : SR W fx (frzH F H a) (frzH G H a) H sd σ where
  toHR := S.toHR.frz hg h0 nh
  len := S.len
  slot := fun i s e => (S.slot i s e).keep (frz_same (S.fg.free hg)) (frz_same hg) fun b h1 hm h2 _ => ⟨rfl, by
    have : b ≠ a := fun z => by subst z; exact no i s e hm h1
    rw [frzH_ne this]; exact h2⟩
  apart := S.apart
  free := S.free
/-- the own object of slot i becomes shared -/
theorem SR.frzSlot {i : Nat} (S : SR W fx F G H sd σ) (hi : sd[i]? = some (.own d)) : ∃ F' G' v, Same F F' ∧ Same G G' ∧ SR W fx F' G' H (sd.set i (.sh d)) σ ∧ σ[i]? = some (some v) ∧ Rep W F' d v := by
  obtain ⟨a, h1, h2, h3, h4⟩ := S.slot i _ hi
  have hil : i < sd.length := (List.getElem?_eq_some_iff.mp hi).1
  have nh : ∀ o, (a, o) ∉ fx.hold := fun o hm => S.free a o hm i _ hi rfl h1
  refine ⟨frzH F H a, frzH G H a, .ref a, frz_same (S.fg.free h2), frz_same h2, ⟨S.toHR.frz h2 h3 nh, by rw [List.length_set]; exact S.len, fun j s e => ?_, fun j k s s' b e1 e2 m1 m2 p1 p2 => ?_, fun b o hm j s e m => ?_⟩, h1, h4.frz (S.fg.free h2)⟩
  · rw [List.getElem?_set] at e
    by_cases hj : i = j
    · subst hj
      rw [if_pos rfl, if_pos hil] at e
      cases e
      exact ⟨.ref a, h1, h4.frz (S.fg.free h2)⟩
    · rw [if_neg hj] at e
      exact (S.slot j s e).keep (frz_same (S.fg.free h2)) (frz_same h2) fun b p1 hm p2 _ => ⟨rfl, by
        have : b ≠ a := fun z => by subst z; exact hj (S.apart i j _ _ _ hi e rfl hm h1 p1)
        rw [frzH_ne this]; exact p2⟩
  · rw [List.getElem?_set] at e1 e2
    by_cases hj : i = j
    · subst hj; rw [if_pos rfl, if_pos hil] at e1; cases e1; cases m1
    · by_cases hk : i = k
      · subst hk; rw [if_pos rfl, if_pos hil] at e2; cases e2; cases m2
      · rw [if_neg hj] at e1
        rw [if_neg hk] at e2
        exact S.apart j k s s' b e1 e2 m1 m2 p1 p2
  · rw [List.getElem?_set] at e
    by_cases hj : i = j
    · subst hj; rw [if_pos rfl, if_pos hil] at e; cases e; cases m
    · rw [if_neg hj] at e; exact S.free b o hm j s e m
/-- what a result stands for, read now -/
theorem RVR.read {rv : RV} (S : SR W fx F G H sd σ) (r : RVR W fx F G H sd σ rv v) (h : rv.d? sd = some d) : Rep W H d v := by
  cases rv with
  | val e => cases h; exact Rep.keep S.fh r
  | bval e => cases h; exact Rep.keep S.gh r
  | fresh e =>
    cases h
    obtain ⟨a, rfl, h1, h2, h3, _⟩ := r
    exact h3.rep S.fh
  | slot i =>
    have r : σ[i]? = some (some v) := r
    cases e : sd[i]? with
    | none => rw [RV.d?, e] at h; cases h
    | some s =>
      rw [RV.d?, e] at h
      have q := S.slot i s e
      cases s with
      | no => cases h
      | sh d' => cases h; obtain ⟨v', h1, h2⟩ := q; rw [r] at h1; cases h1; exact h2.keep S.fh
      | bor d' => cases h; obtain ⟨v', h1, h2⟩ := q; rw [r] at h1; cases h1; exact h2.keep S.gh
      | own d' => cases h; obtain ⟨a, h1, h2, h3, h4⟩ := q; rw [r] at h1; cases h1; exact h4.rep S.fh
      | io d' => cases h; obtain ⟨a, _, h1, h2, h4⟩ := q; rw [r] at h1; cases h1; exact h4.rep S.fh
def RV.keep : RV → RV
  | .fresh d => .val d
  | rv => rv
theorem RVR.keep {rv : RV} (S : SR W fx F G H sd σ) (r : RVR W fx F G H sd σ rv v) : ∃ F' G', Same F F' ∧ Same G G' ∧ SR W fx F' G' H sd σ ∧ RVR W fx F' G' H sd σ rv.keep v := by
  cases rv with
  | fresh e =>
    obtain ⟨a, rfl, h1, h2, h3, h4, h5⟩ := r
    exact ⟨_, _, frz_same (S.fg.free h1), frz_same h1, S.frzFresh h1 h2 h4 h5, h3.frz (S.fg.free h1)⟩
  | val e => exact ⟨F, G, Same.refl _, Same.refl _, S, r⟩
  | bval e => exact ⟨F, G, Same.refl _, Same.refl _, S, r⟩
  | slot i => exact ⟨F, G, Same.refl _, Same.refl _, S, r⟩
theorem RVR.mono {rv : RV} {sd' : List SV} (eF : Same F F') (eG : Same G G') (r : RVR W fx F G H sd σ rv.keep v) : RVR W fx F' G' H' sd' σ rv.keep v := by
  cases rv with
  | fresh e => exact Rep.keep eF r
  | val e => exact Rep.keep eF r
  | bval e => exact Rep.keep eG r
  | slot i => exact r
end
end Av

/-! the judgements over data; variables, constants, operands, tests, displays, calls of built-ins -/
namespace Av
open PySem L2

def R.bind {α β : Type} (r : R α) (f : α → M β) : R β := match r with
  | .ok a sd => f a sd
  | .exc x sd => .exc x sd
  | .fail => .fail
def mBind {α β : Type} (m : M α) (f : α → M β) : M β := fun sd => (m sd).bind f
def mPure {α : Type} (a : α) : M α := fun sd => .ok a sd
def mFail {α : Type} : M α := fun _ => .fail
def mGet {α : Type} (o : Option α) : M α := fun sd => match o with
  | some a => .ok a sd
  | none => .fail

/-- what is wanted of a run's end. Rl: what the result stands for -/
def Po {α β : Type} (W : Wd) (fx : Fx) (F G : Hp) (σ : St) (Wx : WX) (Rl : Hp → Hp → Hp → List SV → α → β → Prop) (Q : β → Hp → Prop) : R α → Prop
  | .ok a sd => ∀ F' G' H' b, Same F F' → Same G G' → SR W fx F' G' H' sd σ → Rl F' G' H' sd a b → Q b H'
  | .exc x sd => ∀ F' G' H' c d, Same F F' → Same G G' → SR W fx F' G' H' sd σ → ExR W F' H' x c d → Wx c d σ H'
  | .fail => False
theorem Po.mono {α β : Type} {W : Wd} {fx : Fx} {F G F1 G1 : Hp} {σ : St} {Wx : WX} {Rl : Hp → Hp → Hp → List SV → α → β → Prop} {Q : β → Hp → Prop} {r : R α} (eF : Same F F1) (eG : Same G G1) (h : Po W fx F G σ Wx Rl Q r) : Po W fx F1 G1 σ Wx Rl Q r := by
  cases r with
  | ok a sd => exact fun F' G' H' b e1 e2 S q => h F' G' H' b (eF.trans e1) (eG.trans e2) S q
  | exc x sd => exact fun F' G' H' c d e1 e2 S q => h F' G' H' c d (eF.trans e1) (eG.trans e2) S q
  | fail => exact h

abbrev wd (X : Cx) : Wd := ⟨X.K, X.mg⟩
abbrev RlE (W : Wd) (fx : Fx) (σ : St) : Hp → Hp → Hp → List SV → RV → V → Prop := fun F G H sd rv v => RVR W fx F G H sd σ rv v
abbrev RlT : Hp → Hp → Hp → List SV → Bool → Bool → Prop := fun _ _ _ _ b c => b = c
/-- an expression does what m tells -/
structure SE (fx : Fx) (X : Cx) (Wx : WX) (e : Expr) (m : M RV) : Prop where
  ex : ∃ t, PE X e t ∧ ∀ F G H sd σ Q, SR (wd X) fx F G H sd σ → Po (wd X) fx F G σ Wx (RlE (wd X) fx σ) Q (m sd) → t σ H Q
structure ST (fx : Fx) (X : Cx) (Wx : WX) (e : Expr) (m : M Bool) : Prop where
  ex : ∃ t, PT X e t ∧ ∀ F G H sd σ Q, SR (wd X) fx F G H sd σ → Po (wd X) fx F G σ Wx RlT Q (m sd) → t σ H Q
/-- and, or as a test, whatever its whole is -/
structure SW (fx : Fx) (X : Cx) (Wx : WX) (e : Expr) (m : M Bool) : Prop where
  ex : ∃ t, PW X e t ∧ ∀ F G H sd σ Q, SR (wd X) fx F G H sd σ → Po (wd X) fx F G σ Wx RlT Q (m sd) → t σ H Q
/-- items of a result list, kept -/
def RVRs (W : Wd) (fx : Fx) (F G H : Hp) (sd : List SV) (σ : St) (rs : List RV) (vs : List V) : Prop := rs.length = vs.length ∧ ∀ (i : Nat) r v, rs[i]? = some r → vs[i]? = some v → RVR W fx F G H sd σ r.keep v
structure SA (fx : Fx) (X : Cx) (Wx : WX) (es : List Expr) (m : M (List RV)) : Prop where
  ex : ∃ t, PA X es t ∧ ∀ F G H sd σ Q, SR (wd X) fx F G H sd σ → Po (wd X) fx F G σ Wx (fun F G H sd rs vs => RVRs (wd X) fx F G H sd σ rs vs) Q (m sd) → t σ H Q

section
variable {fx : Fx} {X : Cx} {Wx : WX} {e a b c : Expr} {pos : Pos}

/-! ### variables, constants -/
def mVar (i : Nat) : M RV := fun sd => match sd[i]?.getD .no with
  | .no => .fail
  | .sh d => .ok (.val d) sd
  | .bor d => .ok (.bval d) sd
  | .own _ => .ok (.slot i) sd
  | .io _ => .ok (.slot i) sd
theorem se_var (i : Nat) {x : Str} (hN : X.N[i]? = some x) (hv : Vis X.env.scope x) (hd : (x == ("__debug__" : Str)) = false := by decide) (hcd : (x == ("__classdict__" : Str)) = false := by decide) : SE fx X Wx (.Name x pos) (mVar i) := by
  refine ⟨_, pe_var hN hv hd hcd, fun F G H sd σ Q S h => ?_⟩
  unfold mVar at h
  cases e : sd[i]? with
  | none => rw [e] at h; exact h.elim
  | some s =>
    rw [e] at h
    have q := S.slot i s e
    cases s with
    | no => exact h.elim
    | sh d => obtain ⟨v, h1, h2⟩ := q; exact ⟨v, h1, h F G H v (Same.refl _) (Same.refl _) S h2⟩
    | bor d => obtain ⟨v, h1, h2⟩ := q; exact ⟨v, h1, h F G H v (Same.refl _) (Same.refl _) S h2⟩
    | own d => obtain ⟨v, h1, h2⟩ := q; exact ⟨_, h1, h F G H _ (Same.refl _) (Same.refl _) S h1⟩
    | io d => obtain ⟨v, h0, h1, h2⟩ := q; exact ⟨_, h1, h F G H _ (Same.refl _) (Same.refl _) S h1⟩
def mC (d : D) : M RV := mPure (.val d)
theorem se_c {d : D} {v : V} (h : PE X e (tC v)) (r : ∀ F, Rep (wd X) F d v) : SE fx X Wx e (mC d) :=
  ⟨_, h, fun F G H sd σ Q S q => q F G H v (Same.refl _) (Same.refl _) S (r F)⟩
theorem se_int {i j} : SE fx X Wx (.Constant (.int i) j pos) (mC (.int i)) := se_c pe_int fun _ => .int i
theorem se_bl {b j} : SE fx X Wx (.Constant (.bool b) j pos) (mC (.bl b)) := se_c pe_bl fun _ => .bl b
theorem se_non {j} : SE fx X Wx (.Constant .none j pos) (mC .non) := se_c pe_non fun _ => .non
theorem se_str {x j} : SE fx X Wx (.Constant (.str x) j pos) (mC (.str x)) := se_c pe_str fun _ => .str x

/-! ### one and two operands -/
/-- a two-place operation by data; g: what it gives, or nothing where it isn't told -/
def OpS (fx : Fx) (X : Cx) (f : Value → Value → Sem Value) (g : D → D → Option RV) : Prop :=
  ∃ r : R2, OpR X f r ∧ ∀ F G H sd σ x y v u rv Q, SR (wd X) fx F G H sd σ → Rep (wd X) H x v → Rep (wd X) H y u → g x y = some rv →
    (∀ F' G' H' w, Same F F' → Same G G' → SR (wd X) fx F' G' H' sd σ → RVR (wd X) fx F' G' H' sd σ rv w → Q w H') → r v u H Q
def OpS1 (fx : Fx) (X : Cx) (f : Value → Sem Value) (g : D → Option RV) : Prop :=
  ∃ r : V → Hp → VK → Prop, UnR X f r ∧ ∀ F G H sd σ x v rv Q, SR (wd X) fx F G H sd σ → Rep (wd X) H x v → g x = some rv →
    (∀ F' G' H' w, Same F F' → Same G G' → SR (wd X) fx F' G' H' sd σ → RVR (wd X) fx F' G' H' sd σ rv w → Q w H') → r v H Q
def mRead (rv : RV) : M D := fun sd => match rv.d? sd with
  | some d => .ok d sd
  | none => .fail
def mOp (g : D → D → Option RV) (ma mb : M RV) : M RV := mBind ma fun ra => mBind mb fun rb => mBind (mRead ra.keep) fun x => mBind (mRead rb.keep) fun y => mGet (g x y)
def mUn (g : D → Option RV) (ma : M RV) : M RV := mBind ma fun ra => mBind (mRead ra.keep) fun x => mGet (g x)
/-- two operands, one after the other -/
theorem two {ta tb : TE} {ma mb : M RV} (ha : ∀ F G H sd σ Q, SR (wd X) fx F G H sd σ → Po (wd X) fx F G σ Wx (RlE (wd X) fx σ) Q (ma sd) → ta σ H Q)
    (hb : ∀ F G H sd σ Q, SR (wd X) fx F G H sd σ → Po (wd X) fx F G σ Wx (RlE (wd X) fx σ) Q (mb sd) → tb σ H Q) {α β : Type} {k : RV → RV → M α} {Rl : Hp → Hp → Hp → List SV → α → β → Prop} {Q : β → Hp → Prop} {T : V → V → Hp → Prop}
    {F G H : Hp} {sd : List SV} {σ : St} (S : SR (wd X) fx F G H sd σ) (h : Po (wd X) fx F G σ Wx Rl Q ((mBind ma fun ra => mBind mb fun rb => k ra rb) sd))
    (ht : ∀ F' G' H' sd' ra rb v u, Same F F' → Same G G' → SR (wd X) fx F' G' H' sd' σ → RVR (wd X) fx F' G' H' sd' σ ra.keep v → RVR (wd X) fx F' G' H' sd' σ rb.keep u → Po (wd X) fx F' G' σ Wx Rl Q (k ra rb sd') → T v u H') :
    ta σ H fun x H1 => tb σ H1 fun y H2 => T x y H2 := by
  refine ha F G H sd σ _ S ?_
  unfold mBind at h
  cases ea : ma sd with
  | fail => rw [ea] at h; exact h
  | exc x sd1 => rw [ea] at h; exact h
  | ok ra sd1 =>
    rw [ea] at h
    intro F1 G1 H1 v e1 e2 S1 r1
    obtain ⟨F2, G2, e3, e4, S2, r2⟩ := r1.keep S1
    refine hb F2 G2 H1 sd1 σ _ S2 ?_
    have h : Po (wd X) fx F G σ Wx Rl Q ((mb sd1).bind fun rb => k ra rb) := h
    cases eb : mb sd1 with
    | fail => rw [eb] at h; exact h
    | exc x sd2 => rw [eb] at h; exact fun F' G' H' c d i1 i2 S' q => h F' G' H' c d ((e1.trans e3).trans i1) ((e2.trans e4).trans i2) S' q
    | ok rb sd2 =>
      rw [eb] at h
      intro F3 G3 H3 u e5 e6 S3 r3
      obtain ⟨F4, G4, e7, e8, S4, r4⟩ := r3.keep S3
      exact ht F4 G4 H3 sd2 ra rb v u (((e1.trans e3).trans e5).trans e7) (((e2.trans e4).trans e6).trans e8) S4 (r2.mono (e5.trans e7) (e6.trans e8)) r4 (h.mono (((e1.trans e3).trans e5).trans e7) (((e2.trans e4).trans e6).trans e8))
/-- one operand -/
theorem one {ta : TE} {ma : M RV} (ha : ∀ F G H sd σ Q, SR (wd X) fx F G H sd σ → Po (wd X) fx F G σ Wx (RlE (wd X) fx σ) Q (ma sd) → ta σ H Q)
    {α β : Type} {k : RV → M α} {Rl : Hp → Hp → Hp → List SV → α → β → Prop} {Q : β → Hp → Prop} {T : V → Hp → Prop}
    {F G H : Hp} {sd : List SV} {σ : St} (S : SR (wd X) fx F G H sd σ) (h : Po (wd X) fx F G σ Wx Rl Q ((mBind ma fun ra => k ra) sd))
    (ht : ∀ F' G' H' sd' ra v, Same F F' → Same G G' → SR (wd X) fx F' G' H' sd' σ → RVR (wd X) fx F' G' H' sd' σ ra.keep v → Po (wd X) fx F' G' σ Wx Rl Q (k ra sd') → T v H') :
    ta σ H fun x H1 => T x H1 := by
  refine ha F G H sd σ _ S ?_
  unfold mBind at h
  cases ea : ma sd with
  | fail => rw [ea] at h; exact h
  | exc x sd1 => rw [ea] at h; exact h
  | ok ra sd1 =>
    rw [ea] at h
    intro F1 G1 H1 v e1 e2 S1 r1
    obtain ⟨F2, G2, e3, e4, S2, r2⟩ := r1.keep S1
    exact ht F2 G2 H1 sd1 ra v (e1.trans e3) (e2.trans e4) S2 r2 (h.mono (e1.trans e3) (e2.trans e4))
theorem Po.read {α β : Type} {W : Wd} {F G : Hp} {σ : St} {Rl : Hp → Hp → Hp → List SV → α → β → Prop} {Q : β → Hp → Prop} {rv : RV} {k : D → M α} {sd : List SV} (h : Po W fx F G σ Wx Rl Q ((mBind (mRead rv) k) sd)) : ∃ d, rv.d? sd = some d ∧ Po W fx F G σ Wx Rl Q (k d sd) := by
  unfold mBind mRead at h
  cases e : rv.d? sd with
  | none => rw [e] at h; exact h.elim
  | some d => rw [e] at h; exact ⟨d, rfl, h⟩
theorem Po.get {α β : Type} {W : Wd} {F G : Hp} {σ : St} {Rl : Hp → Hp → Hp → List SV → α → β → Prop} {Q : β → Hp → Prop} {o : Option α} {sd : List SV} (h : Po W fx F G σ Wx Rl Q (mGet o sd)) : ∃ d, o = some d ∧ Po W fx F G σ Wx Rl Q (.ok d sd) := by
  unfold mGet at h
  cases o with
  | none => exact h.elim
  | some d => exact ⟨d, rfl, h⟩
theorem Po.getB {α β γ : Type} {W : Wd} {F G : Hp} {σ : St} {Rl : Hp → Hp → Hp → List SV → α → β → Prop} {Q : β → Hp → Prop} {o : Option γ} {k : γ → M α} {sd : List SV} (h : Po W fx F G σ Wx Rl Q ((mBind (mGet o) k) sd)) : ∃ d, o = some d ∧ Po W fx F G σ Wx Rl Q (k d sd) := by
  unfold mBind mGet at h
  cases o with
  | none => exact h.elim
  | some d => exact ⟨d, rfl, h⟩
theorem se_op {op : Operator} {g : D → D → Option RV} {ma mb : M RV} (ho : OpS fx X (binaryOp op) g) (ha : SE fx X Wx a ma) (hb : SE fx X Wx b mb) : SE fx X Wx (.BinOp a op b pos) (mOp g ma mb) := by
  obtain ⟨r, h1, h2⟩ := ho
  obtain ⟨ta, pa, qa⟩ := ha.ex
  obtain ⟨tb, pb, qb⟩ := hb.ex
  refine ⟨_, pe_op h1 pa pb, fun F G H sd σ Q S h => two qa qb S h fun F1 G1 H1 sd1 ra rb v u e1 e2 S1 r1 r2 h => ?_⟩
  obtain ⟨x, k1, h⟩ := h.read
  obtain ⟨y, k2, h⟩ := h.read
  obtain ⟨rv, k3, h⟩ := h.get
  exact h2 F1 G1 H1 sd1 σ x y v u rv Q S1 (r1.read S1 k1) (r2.read S1 k2) k3 h
theorem se_cmp {op : CmpOp} {g : D → D → Option RV} {ma mb : M RV} (ho : OpS fx X (compareOp op) g) (ha : SE fx X Wx a ma) (hb : SE fx X Wx b mb) (hm : behindInMarks op b = false) : SE fx X Wx (.Compare a [op] [b] pos) (mOp g ma mb) := by
  obtain ⟨r, h1, h2⟩ := ho
  obtain ⟨ta, pa, qa⟩ := ha.ex
  obtain ⟨tb, pb, qb⟩ := hb.ex
  refine ⟨_, pe_cmpR h1 pa pb hm, fun F G H sd σ Q S h => two qa qb S h fun F1 G1 H1 sd1 ra rb v u e1 e2 S1 r1 r2 h => ?_⟩
  obtain ⟨x, k1, h⟩ := h.read
  obtain ⟨y, k2, h⟩ := h.read
  obtain ⟨rv, k3, h⟩ := h.get
  exact h2 F1 G1 H1 sd1 σ x y v u rv Q S1 (r1.read S1 k1) (r2.read S1 k2) k3 h
theorem se_un {op : UnaryOp} {g : D → Option RV} {ma : M RV} (ho : OpS1 fx X (unaryOp op) g) (ha : SE fx X Wx a ma) : SE fx X Wx (.UnaryOp op a pos) (mUn g ma) := by
  obtain ⟨r, h1, h2⟩ := ho
  obtain ⟨ta, pa, qa⟩ := ha.ex
  refine ⟨_, pe_un h1 pa, fun F G H sd σ Q S h => one qa S h fun F1 G1 H1 sd1 ra v e1 e2 S1 r1 h => ?_⟩
  obtain ⟨x, k1, h⟩ := h.read
  obtain ⟨rv, k3, h⟩ := h.get
  exact h2 F1 G1 H1 sd1 σ x v rv Q S1 (r1.read S1 k1) k3 h

/-! ### tests -/
def RV.b? : RV → Option Bool
  | .val (.bl b) => some b
  | _ => none
/-- a comparison as a test -/
def mCmpT (g : D → D → Option RV) (ma mb : M RV) : M Bool := mBind (mOp g ma mb) fun r => mGet r.b?
theorem RVR.bool {W : Wd} {F G H : Hp} {sd : List SV} {σ : St} {rv : RV} {v : V} {k : Bool} (r : RVR W fx F G H sd σ rv v) (h : rv.b? = some k) : v = .bl k := by
  cases rv with
  | val d => cases d <;> first | (cases h; done) | (cases h; exact Rep.bl_inv r)
  | _ => cases h
theorem mBind_assoc {α β γ : Type} (m : M α) (f : α → M β) (g : β → M γ) : mBind (mBind m f) g = mBind m fun a => mBind (f a) g := by
  funext sd
  unfold mBind
  cases m sd <;> rfl
theorem st_cmp {op : CmpOp} {g : D → D → Option RV} {ma mb : M RV} (ho : OpS fx X (compareOp op) g) (ha : SE fx X Wx a ma) (hb : SE fx X Wx b mb) (hm : behindInMarks op b = false) : ST fx X Wx (.Compare a [op] [b] pos) (mCmpT g ma mb) := by
  obtain ⟨r, h1, h2⟩ := ho
  obtain ⟨ta, pa, qa⟩ := ha.ex
  obtain ⟨tb, pb, qb⟩ := hb.ex
  refine ⟨_, pt_cmpR h1 pa pb hm, fun F G H sd σ Q S h => ?_⟩
  unfold mCmpT mOp at h
  simp only [mBind_assoc] at h
  refine two qa qb S h fun F1 G1 H1 sd1 ra rb v u e1 e2 S1 r1 r2 h => ?_
  obtain ⟨x, k1, h⟩ := h.read
  obtain ⟨y, k2, h⟩ := h.read
  obtain ⟨rv, k3, h⟩ := h.getB
  obtain ⟨k, k4, h⟩ := h.get
  exact h2 F1 G1 H1 sd1 σ x y v u rv _ S1 (r1.read S1 k1) (r2.read S1 k2) k3 fun F' G' H' w i1 i2 S' q => ⟨k, RVR.bool q k4, h F' G' H' k i1 i2 S' rfl⟩
/-- a op b op' c -/
def mChain (g g' : D → D → Option RV) (ma mb mc : M RV) : M RV := mBind ma fun ra => mBind mb fun rb => mBind (mRead ra.keep) fun x => mBind (mRead rb.keep) fun y => mBind (mGet (g x y)) fun r => mBind (mGet r.b?) fun k =>
  if k then mBind mc fun rc => mBind (mRead rb.keep) fun y => mBind (mRead rc.keep) fun z => mGet (g' y z) else mPure (.val (.bl false))
theorem chain_in {r r' : R2} {g g' : D → D → Option RV} {ta tb tc : TE} {ma mb mc : M RV}
    (h2 : ∀ F G H sd σ x y v u rv Q, SR (wd X) fx F G H sd σ → Rep (wd X) H x v → Rep (wd X) H y u → g x y = some rv → (∀ F' G' H' w, Same F F' → Same G G' → SR (wd X) fx F' G' H' sd σ → RVR (wd X) fx F' G' H' sd σ rv w → Q w H') → r v u H Q)
    (h2' : ∀ F G H sd σ x y v u rv Q, SR (wd X) fx F G H sd σ → Rep (wd X) H x v → Rep (wd X) H y u → g' x y = some rv → (∀ F' G' H' w, Same F F' → Same G G' → SR (wd X) fx F' G' H' sd σ → RVR (wd X) fx F' G' H' sd σ rv w → Q w H') → r' v u H Q)
    (qa : ∀ F G H sd σ Q, SR (wd X) fx F G H sd σ → Po (wd X) fx F G σ Wx (RlE (wd X) fx σ) Q (ma sd) → ta σ H Q) (qb : ∀ F G H sd σ Q, SR (wd X) fx F G H sd σ → Po (wd X) fx F G σ Wx (RlE (wd X) fx σ) Q (mb sd) → tb σ H Q)
    (qc : ∀ F G H sd σ Q, SR (wd X) fx F G H sd σ → Po (wd X) fx F G σ Wx (RlE (wd X) fx σ) Q (mc sd) → tc σ H Q) {F G H : Hp} {sd : List SV} {σ : St} {Q : VK} (S : SR (wd X) fx F G H sd σ)
    (h : Po (wd X) fx F G σ Wx (RlE (wd X) fx σ) Q (mChain g g' ma mb mc sd)) : tChain r r' ta tb tc σ H Q := by
  refine two qa qb S h fun F1 G1 H1 sd1 ra rb v u e1 e2 S1 r1 r2 h => ?_
  obtain ⟨x, k1, h⟩ := h.read
  obtain ⟨y, k2, h⟩ := h.read
  obtain ⟨rv, k3, h⟩ := h.getB
  obtain ⟨k, k4, h⟩ := h.getB
  refine h2 F1 G1 H1 sd1 σ x y v u rv _ S1 (r1.read S1 k1) (r2.read S1 k2) k3 fun F' G' H' w i1 i2 S' q => ⟨k, RVR.bool q k4, ?_⟩
  cases k with
  | false => exact iteF (h F' G' H' _ i1 i2 S' (.bl false))
  | true =>
    refine iteT ?_
    rw [if_pos rfl] at h
    have h := h.mono i1 i2
    refine one qc S' h fun F3 G3 H3 sd3 rc w' i3 i4 S3 r4 h => ?_
    obtain ⟨y', k5, h⟩ := h.read
    obtain ⟨z, k6, h⟩ := h.read
    obtain ⟨rv', k7, h⟩ := h.get
    exact h2' F3 G3 H3 sd3 σ y' z u w' rv' Q S3 ((RVR.mono (H' := H3) (sd' := sd3) i3 i4 (RVR.mono (H' := H') (sd' := sd1) i1 i2 r2)).read S3 k5) (r4.read S3 k6) k7 h
end
end Av

/-! operations by data: equality, membership, arithmetic, joins -/
namespace Av
open PySem L2

mutual
def toP : D → PyData
  | .non => .none
  | .bl b => .bool b
  | .int i => .int i
  | .str x => .str x
  | .tup xs => .tuple (toPs xs)
  | .lst xs => .list (toPs xs)
  | .dic _ => .dict []
  | .obj _ _ => .dict []
def toPs : List D → List PyData
  | [] => []
  | x :: r => toP x :: toPs r
end
mutual
/-- plain data, nested at most n deep -/
def D.okN : Nat → D → Bool
  | _, .non => true
  | _, .bl _ => true
  | _, .int _ => true
  | _, .str x => PyData.strOk x
  | 0, .tup _ => false
  | n + 1, .tup xs => D.okNs n xs
  | 0, .lst _ => false
  | n + 1, .lst xs => D.okNs n xs
  | _, .dic _ => false
  | _, .obj _ _ => false
def D.okNs : Nat → List D → Bool
  | _, [] => true
  | n, x :: r => D.okN n x && D.okNs n r
end
mutual
/-- == -/
def D.eqv : D → D → Bool
  | .non, .non => true
  | .bl a, .bl b => a == b
  | .bl a, .int j => (if a then 1 else 0) == j
  | .int i, .bl b => i == (if b then 1 else 0)
  | .int i, .int j => i == j
  | .str x, .str y => x == y
  | .lst xs, .lst ys => D.eqvs xs ys
  | .tup xs, .tup ys => D.eqvs xs ys
  | _, _ => false
def D.eqvs : List D → List D → Bool
  | [], [] => true
  | x :: xs, y :: ys => D.eqv x y && D.eqvs xs ys
  | _, _ => false
end
mutual
theorem eqv_toP : ∀ (d e : D), PyData.eqv (toP d) (toP e) = D.eqv d e
  | .non, e => by cases e <;> simp [toP, PyData.eqv, D.eqv]
  | .bl b, e => by cases e <;> simp [toP, PyData.eqv, D.eqv]
  | .int b, e => by cases e <;> simp [toP, PyData.eqv, D.eqv]
  | .str b, e => by cases e <;> simp [toP, PyData.eqv, D.eqv]
  | .lst xs, e => by
    cases e <;> simp [toP, PyData.eqv, D.eqv]
    rename_i ys; exact eqvs_toPs xs ys
  | .tup xs, e => by
    cases e <;> simp [toP, PyData.eqv, D.eqv]
    rename_i ys; exact eqvs_toPs xs ys
  | .dic b, e => by cases e <;> simp [toP, PyData.eqv, D.eqv]
  | .obj b c, e => by cases e <;> simp [toP, PyData.eqv, D.eqv]
theorem eqvs_toPs : ∀ (d e : List D), PyData.eqvAll (toPs d) (toPs e) = D.eqvs d e
  | [], [] => by simp [toPs, PyData.eqvAll, D.eqvs]
  | [], _ :: _ => by simp [toPs, PyData.eqvAll, D.eqvs]
  | _ :: _, [] => by simp [toPs, PyData.eqvAll, D.eqvs]
  | x :: xs, y :: ys => by simp [toPs, PyData.eqvAll, D.eqvs, eqv_toP x y, eqvs_toPs xs ys]
end
mutual
theorem okN_can : ∀ (d : D) (n : Nat), d.okN n = true → (toP d).canLay0 = true ∧ (toP d).depth ≤ n
  | .non, n, _ => by simp [toP, PyData.canLay0, PyData.depth]
  | .bl b, n, _ => by simp [toP, PyData.canLay0, PyData.depth]
  | .int b, n, _ => by simp [toP, PyData.canLay0, PyData.depth]
  | .str b, n, h => by simpa [toP, PyData.canLay0, PyData.depth, D.okN] using h
  | .lst xs, 0, h => by simp [D.okN] at h
  | .tup xs, 0, h => by simp [D.okN] at h
  | .lst xs, n + 1, h => by
    obtain ⟨h1, h2⟩ := okNs_can xs n (by simpa [D.okN] using h)
    simp [toP, PyData.canLay0, PyData.depth, h1]; omega
  | .tup xs, n + 1, h => by
    obtain ⟨h1, h2⟩ := okNs_can xs n (by simpa [D.okN] using h)
    simp [toP, PyData.canLay0, PyData.depth, h1]; omega
  | .dic b, n, h => by simp [D.okN] at h
  | .obj b c, n, h => by simp [D.okN] at h
theorem okNs_can : ∀ (d : List D) (n : Nat), D.okNs n d = true → PyData.canLayAll0 (toPs d) = true ∧ PyData.depthAll (toPs d) ≤ n
  | [], n, _ => by simp [toPs, PyData.canLayAll0, PyData.depthAll]
  | x :: xs, n, h => by
    simp only [D.okNs, Bool.and_eq_true] at h
    obtain ⟨h1, h2⟩ := okN_can x n h.1
    obtain ⟨h3, h4⟩ := okNs_can xs n h.2
    simp [toPs, PyData.canLayAll0, PyData.depthAll, h1, h3]; omega
end
theorem okN_shaped {d : D} (h : d.okN 64 = true) : SeqAt.shaped (toP d) = true := by
  obtain ⟨h1, h2⟩ := okN_can d 64 h
  unfold SeqAt.shaped
  rw [h1, decide_eq_true h2]; rfl
mutual
theorem Rep.dp {W : Wd} {H : Hp} : ∀ (d : D) (n : Nat) (v : V), d.okN n = true → Rep W H d v → Dp W.K H v (toP d)
  | .non, n, v, _, r => by cases r; exact .non
  | .bl b, n, v, _, r => by cases r; exact .bl b
  | .int b, n, v, _, r => by cases r; exact .int b
  | .str b, n, v, _, r => by cases r; exact .str b
  | .lst xs, 0, v, h, r => by simp [D.okN] at h
  | .tup xs, 0, v, h, r => by simp [D.okN] at h
  | .lst xs, n + 1, v, h, r => by
    obtain ⟨a, vs, rfl, h1, h2⟩ := r.lst_inv
    exact .lst h1 (RepL.dps xs n vs (by simpa [D.okN] using h) h2)
  | .tup xs, n + 1, v, h, r => by
    obtain ⟨a, vs, rfl, h1, h2⟩ := r.tup_inv
    exact .tup h1 (RepL.dps xs n vs (by simpa [D.okN] using h) h2)
  | .dic b, n, v, h, r => by simp [D.okN] at h
  | .obj b c, n, v, h, r => by simp [D.okN] at h
theorem RepL.dps {W : Wd} {H : Hp} : ∀ (ds : List D) (n : Nat) (vs : List V), D.okNs n ds = true → RepL W H ds vs → DpAll W.K H vs (toPs ds)
  | [], n, vs, _, r => by
    obtain rfl := r.nil_inv
    exact .nil
  | x :: xs, n, vs, h, r => by
    simp only [D.okNs, Bool.and_eq_true] at h
    obtain ⟨v, ws, rfl, h1, h2⟩ := r.cons_inv
    exact .cons (Rep.dp x n v h.1 h1) (RepL.dps xs n ws h.2 h2)
end

section
variable {fx : Fx} {X : Cx}
/-- no object is made: the result is flat -/
theorem out_flat {F G H : Hp} {sd : List SV} {σ : St} {d : D} {v : V} {Q : VK} (S : SR (wd X) fx F G H sd σ) (k : ∀ F' G' H' w, Same F F' → Same G G' → SR (wd X) fx F' G' H' sd σ → RVR (wd X) fx F' G' H' sd σ (.val d) w → Q w H') (r : Rep (wd X) F d v) : Q v H :=
  k F G H v (Same.refl _) (Same.refl _) S r
def gEq (x y : D) : Option RV := if x.okN 64 && y.okN 64 then some (.val (.bl (x.eqv y))) else none
def gNe (x y : D) : Option RV := if x.okN 64 && y.okN 64 then some (.val (.bl (!x.eqv y))) else none
theorem os_eq (hu : X.A.units + 64 < cLine) : OpS fx X (compareOp .Eq) gEq := ⟨_, op_eqD hu, fun F G H sd σ x y v u rv Q S r1 r2 h k => by
  unfold gEq at h
  split at h
  · rename_i hc
    rw [Bool.and_eq_true] at hc
    cases h
    refine ⟨toP x, toP y, r1.dp _ _ _ hc.1, r2.dp _ _ _ hc.2, okN_shaped hc.1, okN_shaped hc.2, ?_⟩
    rw [eqv_toP]
    exact out_flat S k (.bl _)
  · cases h⟩
theorem os_ne (hu : X.A.units + 64 < cLine) : OpS fx X (compareOp .NotEq) gNe := ⟨_, op_neD hu, fun F G H sd σ x y v u rv Q S r1 r2 h k => by
  unfold gNe at h
  split at h
  · rename_i hc
    rw [Bool.and_eq_true] at hc
    cases h
    refine ⟨toP x, toP y, r1.dp _ _ _ hc.1, r2.dp _ _ _ hc.2, okN_shaped hc.1, okN_shaped hc.2, ?_⟩
    rw [eqv_toP]
    exact out_flat S k (.bl _)
  · cases h⟩
theorem OpS.or {f : Value → Value → Sem Value} {g g' : D → D → Option RV} (h : OpS fx X f g) (h' : OpS fx X f g') : OpS fx X f (fun x y => (g x y).or (g' x y)) := by
  obtain ⟨r, h1, h2⟩ := h
  obtain ⟨r', h1', h2'⟩ := h'
  refine ⟨_, h1.or h1', fun F G H sd σ x y v u rv Q S r1 r2 h k => ?_⟩
  have h : (g x y).or (g' x y) = some rv := h
  cases e : g x y with
  | some a => rw [e] at h; cases h; exact .inl (h2 F G H sd σ x y v u _ Q S r1 r2 e k)
  | none => rw [e] at h; exact .inr (h2' F G H sd σ x y v u _ Q S r1 r2 h k)
theorem OpS.imp {f : Value → Value → Sem Value} {g g' : D → D → Option RV} (h : OpS fx X f g) (hg : ∀ x y rv, g' x y = some rv → g x y = some rv) : OpS fx X f g' := by
  obtain ⟨r, h1, h2⟩ := h
  exact ⟨r, h1, fun F G H sd σ x y v u rv Q S r1 r2 h k => h2 F G H sd σ x y v u rv Q S r1 r2 (hg _ _ _ h) k⟩
/-- ints under a condition -/
def gI (C : Int → Int → Bool) (f : Int → Int → D) : D → D → Option RV
  | .int i, .int j => if C i j then some (.val (f i j)) else none
  | _, _ => none
theorem gI_some {C : Int → Int → Bool} {f : Int → Int → D} {x y : D} {rv : RV} (h : gI C f x y = some rv) : ∃ i j, x = .int i ∧ y = .int j ∧ C i j = true ∧ rv = .val (f i j) := by
  unfold gI at h
  split at h
  · rename_i i j
    split at h
    · rename_i c; cases h; exact ⟨i, j, rfl, rfl, c, rfl⟩
    · cases h
  · cases h
theorem os_I {f : Value → Value → Sem Value} {C : Int → Int → Prop} {c : Int → Int → Bool} {g : Int → Int → V} {gd : Int → Int → D} (h : OpR X f (rI C g)) (hc : ∀ i j, c i j = true → C i j) (hg : ∀ F i j, Rep (wd X) F (gd i j) (g i j)) : OpS fx X f (gI c gd) :=
  ⟨_, h, fun F G H sd σ x y v u rv Q S r1 r2 h k => by
    obtain ⟨i, j, rfl, rfl, e, rfl⟩ := gI_some h
    obtain rfl := r1.int_inv
    obtain rfl := r2.int_inv
    exact ⟨i, j, rfl, rfl, hc i j e, out_flat S k (hg F i j)⟩⟩
theorem os_I0 {f : Value → Value → Sem Value} {g : Int → Int → V} {gd : Int → Int → D} (h : OpR X f (rI0 g)) (hg : ∀ F i j, Rep (wd X) F (gd i j) (g i j)) : OpS fx X f (gI (fun _ _ => true) gd) :=
  ⟨_, h, fun F G H sd σ x y v u rv Q S r1 r2 h k => by
    obtain ⟨i, j, rfl, rfl, e, rfl⟩ := gI_some h
    obtain rfl := r1.int_inv
    obtain rfl := r2.int_inv
    exact ⟨i, j, rfl, rfl, out_flat S k (hg F i j)⟩⟩
def gSub := gI (fun _ _ => true) fun i j => .int (i - j)
def gMul := gI (fun i j => decide (i.natAbs < 18446744073709551616) || decide (j.natAbs < 18446744073709551616)) fun i j => .int (i * j)
def gMod := gI (fun _ j => decide (0 < j)) fun i j => .int (i % j)
def gDiv := gI (fun _ j => decide (0 < j) && decide (j < 1073741824)) fun i j => .int (i / j)
def gPow := gI (fun i j => decide (0 ≤ j) && decide (j ≤ 1000) && decide (i.natAbs < 18446744073709551616)) fun i j => .int (i ^ j.toNat)
theorem os_sub : OpS fx X (binaryOp .Sub) gSub := os_I0 op_sub fun _ _ _ => .int _
theorem os_mul : OpS fx X (binaryOp .Mult) gMul := os_I op_mul (fun i j h => by
  rw [Bool.or_eq_true, decide_eq_true_eq, decide_eq_true_eq] at h
  unfold CMul
  have : (2 : Int) ^ 64 = 18446744073709551616 := by decide
  omega) fun _ _ _ => .int _
theorem os_mod : OpS fx X (binaryOp .Mod) gMod := os_I op_mod (fun i j h => of_decide_eq_true h) fun _ _ _ => .int _
theorem os_div : OpS fx X (binaryOp .FloorDiv) gDiv := os_I op_fdiv (fun i j h => by
  rw [Bool.and_eq_true, decide_eq_true_eq, decide_eq_true_eq] at h
  exact h) fun _ _ _ => .int _
theorem os_pow : OpS fx X (binaryOp .Pow) gPow := os_I op_pow (fun i j h => by
  rw [Bool.and_eq_true, Bool.and_eq_true, decide_eq_true_eq, decide_eq_true_eq, decide_eq_true_eq] at h
  have : (2 : Nat) ^ 64 = 18446744073709551616 := by decide
  exact ⟨h.1.1, by omega, by omega⟩) fun _ _ _ => .int _
/-- ints or texts in order -/
def gLt : D → D → Option RV
  | .int i, .int j => some (.val (.bl (decide (i < j))))
  | .str x, .str y => some (.val (.bl (decide (x.cps.toList < y.cps.toList))))
  | _, _ => none
def gLe : D → D → Option RV
  | .int i, .int j => some (.val (.bl (decide (i ≤ j))))
  | .str x, .str y => some (.val (.bl (!decide (y.cps.toList < x.cps.toList))))
  | _, _ => none
def gGt : D → D → Option RV
  | .int i, .int j => some (.val (.bl (decide (j < i))))
  | _, _ => none
def gGe : D → D → Option RV
  | .int i, .int j => some (.val (.bl (decide (j ≤ i))))
  | _, _ => none
end
end Av

/-! more operations; tests; displays; built-ins -/
namespace Av
open PySem L2
section
variable {fx : Fx} {X : Cx} {Wx : WX} {e a b c : Expr} {pos : Pos}
theorem os_lt : OpS fx X (compareOp .Lt) gLt := by
  refine ⟨_, op_lt.or op_lt_str, fun F G H sd σ x y v u rv Q S r1 r2 h k => ?_⟩
  unfold gLt at h
  split at h
  · cases h; obtain rfl := r1.int_inv; obtain rfl := r2.int_inv
    exact .inl ⟨_, _, rfl, rfl, out_flat S k (.bl _)⟩
  · cases h; obtain rfl := r1.str_inv; obtain rfl := r2.str_inv
    exact .inr ⟨_, _, rfl, rfl, out_flat S k (.bl _)⟩
  · cases h
theorem os_le : OpS fx X (compareOp .LtE) gLe := by
  refine ⟨_, op_le.or op_le_str, fun F G H sd σ x y v u rv Q S r1 r2 h k => ?_⟩
  unfold gLe at h
  split at h
  · cases h; obtain rfl := r1.int_inv; obtain rfl := r2.int_inv
    exact .inl ⟨_, _, rfl, rfl, out_flat S k (.bl _)⟩
  · cases h; obtain rfl := r1.str_inv; obtain rfl := r2.str_inv
    exact .inr ⟨_, _, rfl, rfl, out_flat S k (.bl _)⟩
  · cases h
theorem os_gt : OpS fx X (compareOp .Gt) gGt := by
  refine ⟨_, op_gt, fun F G H sd σ x y v u rv Q S r1 r2 h k => ?_⟩
  unfold gGt at h
  split at h
  · cases h; obtain rfl := r1.int_inv; obtain rfl := r2.int_inv
    exact ⟨_, _, rfl, rfl, out_flat S k (.bl _)⟩
  · cases h
theorem os_ge : OpS fx X (compareOp .GtE) gGe := by
  refine ⟨_, op_ge, fun F G H sd σ x y v u rv Q S r1 r2 h k => ?_⟩
  unfold gGe at h
  split at h
  · cases h; obtain rfl := r1.int_inv; obtain rfl := r2.int_inv
    exact ⟨_, _, rfl, rfl, out_flat S k (.bl _)⟩
  · cases h
/-- new objects: the result is told -/
theorem out_newSh {F G H : Hp} {sd : List SV} {σ : St} {ds : List D} {vs : List V} {Q : VK} (S : SR (wd X) fx F G H sd σ) (k : ∀ F' G' H' w, Same F F' → Same G G' → SR (wd X) fx F' G' H' sd σ → RVR (wd X) fx F' G' H' sd σ (.val (.tup ds)) w → Q w H')
    (r : RepL (wd X) F ds vs) {p : Addr} (hp : H p = none) : Q (.ref p) (upd H p (.tup vs)) :=
  k _ _ _ _ (same_upd (S.freeF hp)) (same_upd (S.freeG hp)) (S.newSh hp) ((r.keep (same_upd (S.freeF hp))).tup (SqT.of upd_same))
theorem SR.fresh {W : Wd} {F G H : Hp} {sd : List SV} {σ : St} {p : Addr} {o : HO} {d : D} (S : SR W fx F G H sd σ) (hp : H p = none) (ow : OwnO W F (upd H p o) p d) : RVR W fx F G (upd H p o) sd σ (.fresh d) (.ref p) := by
  refine ⟨p, rfl, S.freeG hp, S.dom p hp, ow, fun i s h1 h2 h3 => ?_, fun o' hm => by rw [(S.held p o' hm).1] at hp; cases hp⟩
  have q := S.slot i s h1
  cases s with
  | own d' => obtain ⟨a, q1, _, _, q4⟩ := q; rw [h3] at q1; cases q1; obtain ⟨u, e, _⟩ := q4.there; rw [hp] at e; cases e
  | io d' => obtain ⟨a, _, q1, _, q4⟩ := q; rw [h3] at q1; cases q1; obtain ⟨u, e, _⟩ := q4.there; rw [hp] at e; cases e
  | _ => cases h2
theorem out_newLst {F G H : Hp} {sd : List SV} {σ : St} {ds : List D} {vs : List V} {Q : VK} (S : SR (wd X) fx F G H sd σ) (k : ∀ F' G' H' w, Same F F' → Same G G' → SR (wd X) fx F' G' H' sd σ → RVR (wd X) fx F' G' H' sd σ (.fresh (.lst ds)) w → Q w H')
    (r : RepL (wd X) F ds vs) {p : Addr} (hp : H p = none) : Q (.ref p) (upd H p (.lst vs)) :=
  k F G _ _ (Same.refl _) (Same.refl _) (S.newOwn hp (fun _ z => by cases z) (fun _ _ z => by cases z)) (S.fresh hp ⟨vs, upd_same, r⟩)
/-- from what is read to what is shared: only flat things and tuples -/
theorem RepL.immF {F G H : Hp} {sd : List SV} {σ : St} {ds : List D} {vs : List V} (S : SR (wd X) fx F G H sd σ) (hi : D.imms ds = true) (r : RepL (wd X) H ds vs) : RepL (wd X) F ds vs :=
  ⟨r.n, fun i d v h1 h2 => (r.r i d v h1 h2).imm S.tup (D.imms_get hi h1)⟩
/-- list + list over all lists that can be read -/
theorem op_catS : OpR X (binaryOp .Add) (fun x y H Q => ∃ l b xs zs, x = .ref l ∧ y = .ref b ∧ SqL X.K H l xs ∧ SqL X.K H b zs ∧ xs.length + zs.length ≤ sizeLine ∧ ∀ p, H p = none → Q (.ref p) (upd H p (.lst (xs ++ zs)))) := by
  intro pins s σ H x y v u Q I rx ry h
  obtain ⟨l, b, xs, zs, rfl, rfl, h1, h2, hz, q⟩ := h
  cases rx
  cases ry
  obtain ⟨its, r1, ⟨⟨cls, dd, data, sl⟩, n, ho, hc, hd, hdt⟩, _⟩ := I.list h1
  obtain ⟨its2, r2, ⟨⟨cls2, dd2, data2, sl2⟩, n2, ho2, hc2, hd2, hdt2⟩, _⟩ := I.list h2
  simp only at hc hd hdt hc2 hd2 hdt2
  subst hc hd hdt hc2 hd2 hdt2
  have e : its.toArray ++ its2.toArray = (its ++ its2).toArray := by simp
  have hl := r1.length
  have hl2 := r2.length
  refine PySem.concat_meets ⟨_, ho, rfl⟩ ⟨_, ho2, rfl⟩ PySem.noFill_list_add PySem.seq_list_add PySem.F.slot_list_add PySem.F.entry_list_add (PySem.F.args_list_add_2 _ _) (PyProof.Rows.list_addW l b its.toArray its2.toArray n n2 _ _ sl sl2 (by simp; omega)) ⟨ho, ho2, ?_⟩
  rw [e]
  exact ⟨.ref _, _, I.lnew (t' := s.toks) (r1.append r2) (by rw [List.length_append]; omega), rfl, q _ I.fresh⟩
def gAdd : D → D → Option RV
  | .int i, .int j => some (.val (.int (i + j)))
  | .str x, .str y => if x.length + y.length ≤ sizeLine then some (.val (.str (x ++ y))) else none
  | .tup xs, .tup ys => if xs.length + ys.length ≤ sizeLine && D.imms xs && D.imms ys then some (.val (.tup (xs ++ ys))) else none
  | .lst xs, .lst ys => if xs.length + ys.length ≤ sizeLine && D.imms xs && D.imms ys then some (.fresh (.lst (xs ++ ys))) else none
  | _, _ => none
theorem os_add : OpS fx X (binaryOp .Add) gAdd := by
  refine ⟨_, ((op_add.or op_add_str).or op_catA).or op_catS, fun F G H sd σ x y v u rv Q S r1 r2 h k => ?_⟩
  unfold gAdd at h
  split at h
  · cases h; obtain rfl := r1.int_inv; obtain rfl := r2.int_inv
    exact .inl (.inl (.inl ⟨_, _, rfl, rfl, out_flat S k (.int _)⟩))
  · split at h
    · rename_i hz
      cases h; obtain rfl := r1.str_inv; obtain rfl := r2.str_inv
      exact .inl (.inl (.inr ⟨_, _, rfl, rfl, hz, out_flat S k (.str _)⟩))
    · cases h
  · split at h
    · rename_i xs ys hz
      rw [Bool.and_eq_true, Bool.and_eq_true, decide_eq_true_eq] at hz
      cases h
      obtain ⟨p, vs, rfl, s1, l1⟩ := r1.tup_inv
      obtain ⟨q, us, rfl, s2, l2⟩ := r2.tup_inv
      have m1 := RepL.immF S hz.1.2 l1
      have m2 := RepL.immF S hz.2 l2
      have i1 := r1.imm S.tup (by rw [D.imm]; exact hz.1.2)
      have i2 := r2.imm S.tup (by rw [D.imm]; exact hz.2)
      refine .inl (.inr ⟨p, q, vs, us, rfl, rfl, s1, s2, by rw [← l1.n, ← l2.n]; exact hz.1.1, fun e => ?_, fun _ e => ?_, fun _ _ w hw => out_newSh S k (m1.append m2) hw⟩)
      · subst e
        have : xs = [] := by have := l1.n; cases xs; rfl; simp at this
        subst this
        exact k F G H _ (Same.refl _) (Same.refl _) S i2
      · subst e
        have : ys = [] := by have := l2.n; cases ys; rfl; simp at this
        subst this
        rw [List.append_nil] at k
        exact k F G H _ (Same.refl _) (Same.refl _) S i1
    · cases h
  · split at h
    · rename_i xs ys hz
      rw [Bool.and_eq_true, Bool.and_eq_true, decide_eq_true_eq] at hz
      cases h
      obtain ⟨p, vs, rfl, s1, l1⟩ := r1.lst_inv
      obtain ⟨q, us, rfl, s2, l2⟩ := r2.lst_inv
      exact .inr ⟨p, q, vs, us, rfl, rfl, s1, s2, by rw [← l1.n, ← l2.n]; exact hz.1.1, fun w hw => out_newLst S k ((RepL.immF S hz.1.2 l1).append (RepL.immF S hz.2 l2)) hw⟩
    · cases h
  · cases h
/-- x in a tuple or a list -/
def gIn (neg : Bool) : D → D → Option RV
  | x, .tup ys => if x.okN 64 && D.okNs 63 ys then some (.val (.bl (neg.xor (ys.any fun y => y.eqv x)))) else none
  | x, .lst ys => if x.okN 64 && D.okNs 63 ys then some (.val (.bl (neg.xor (ys.any fun y => y.eqv x)))) else none
  | _, _ => none
theorem any_toPs (x : D) : ∀ ys : List D, (toPs ys).any (fun z => PyData.eqv z (toP x)) = ys.any fun y => y.eqv x
  | [] => rfl
  | y :: ys => by simp [toPs, List.any_cons, eqv_toP, any_toPs x ys]
theorem in_seqD (neg : Bool) (hu : X.A.units + 65 < cLine) : OpR X (compareOp (if neg then .NotIn else .In)) (fun x y H Q => ∃ d ds, Dp X.K H x d ∧ (Dp X.K H y (.list ds) ∨ Dp X.K H y (.tuple ds)) ∧ SeqAt.shaped d = true ∧ SeqAt.shaped (.list ds) = true ∧ Q (.bl (neg.xor (ds.any fun z => PyData.eqv z d))) H) := by
  intro pins s σ H x y v u Q I rx ry h
  obtain ⟨d, ds, hd, he, sd, se, q⟩ := h
  obtain ⟨as, r1⟩ := Dp.reads I d x v hd rx
  have fin : EP X pins σ Q (.bool (neg.xor (ds.any fun z => PyData.eqv z d))) s := ⟨.bl _, H, I, rfl, q⟩
  have c1 : PyData.canLayAll0 ds = true := SeqAt.canLay_of_shaped se
  have c2 := SeqAt.canLay_of_shaped sd
  have c3 : X.A.units + 1 + min (PyData.depthAll ds) d.depth < cLine := by
    have := SeqAt.depth_of_shaped sd
    omega
  rcases he with he | he
  · obtain ⟨bs, r2⟩ := Dp.reads I (.list ds) y u he ry
    cases neg with
    | true => exact SeqAt.notIn_list_reads r2 r1 c1 c2 c3 (by simpa using fin)
    | false => exact SeqAt.in_list_reads r2 r1 c1 c2 c3 (by simpa using fin)
  · obtain ⟨bs, r2⟩ := Dp.reads I (.tuple ds) y u he ry
    cases neg with
    | true => exact SeqAt.notIn_tuple_reads r2 r1 c1 c2 c3 (by simpa using fin)
    | false => exact SeqAt.in_tuple_reads r2 r1 c1 c2 c3 (by simpa using fin)
theorem os_inN (neg : Bool) (hu : X.A.units + 65 < cLine) : OpS fx X (compareOp (if neg then .NotIn else .In)) (gIn neg) := by
  refine ⟨_, in_seqD neg hu, fun F G H sd σ x y v u rv Q S r1 r2 h k => ?_⟩
  unfold gIn at h
  split at h
  · split at h
    · rename_i ys hc
      rw [Bool.and_eq_true] at hc
      cases h
      refine ⟨toP x, toPs ys, r1.dp _ _ _ hc.1, .inr ?_, okN_shaped hc.1, ?_, ?_⟩
      · exact Rep.dp (.tup ys) 64 u (by simpa [D.okN] using hc.2) r2
      · exact okN_shaped (d := .lst ys) (by simpa [D.okN] using hc.2)
      · rw [any_toPs]
        exact out_flat S k (.bl _)
    · cases h
  · split at h
    · rename_i ys hc
      rw [Bool.and_eq_true] at hc
      cases h
      refine ⟨toP x, toPs ys, r1.dp _ _ _ hc.1, .inl ?_, okN_shaped hc.1, ?_, ?_⟩
      · exact Rep.dp (.lst ys) 64 u (by simpa [D.okN] using hc.2) r2
      · exact okN_shaped (d := .lst ys) (by simpa [D.okN] using hc.2)
      · rw [any_toPs]
        exact out_flat S k (.bl _)
    · cases h
  · cases h
theorem os_in (hu : X.A.units + 65 < cLine) : OpS fx X (compareOp .In) (gIn false) := os_inN false hu
theorem os_notIn (hu : X.A.units + 65 < cLine) : OpS fx X (compareOp .NotIn) (gIn true) := os_inN true hu
end
end Av

/-! tests, displays, built-ins, subscripts, slices -/
namespace Av
open PySem L2
section
variable {fx : Fx} {X : Cx} {Wx : WX} {e a b c : Expr} {pos : Pos}

/-! ### tests -/
def truthD : D → Option Bool
  | .non => some false
  | .bl b => some b
  | .int i => some (i != 0)
  | .str x => if x.length ≤ sizeLine then some ((x.length : Int) != 0) else none
  | .tup xs => some !xs.isEmpty
  | .lst xs => some !xs.isEmpty
  | _ => none
theorem RepL.isEmpty {W : Wd} {H : Hp} {ds : List D} {vs : List V} (r : RepL W H ds vs) : ds.isEmpty = vs.isEmpty := by
  have := r.n
  cases ds <;> cases vs <;> simp_all
theorem truth_ok {W : Wd} {H : Hp} {d : D} {v : V} {k : Bool} (r : Rep W H d v) (h : truthD d = some k) : TruV W.K v H k := by
  unfold truthD at h
  split at h
  · cases h; cases r; rfl
  · cases h; cases r; rfl
  · cases h; cases r; rfl
  · split at h
    · rename_i hz; cases h; cases r; exact ⟨hz, rfl⟩
    · cases h
  · cases h
    obtain ⟨a, vs, rfl, h1, h2⟩ := r.tup_inv
    exact .inr (.inl ⟨vs, h1, by rw [h2.isEmpty]⟩)
  · cases h
    obtain ⟨a, vs, rfl, h1, h2⟩ := r.lst_inv
    exact .inl ⟨vs, h1, by rw [h2.isEmpty]⟩
  · cases h
def mTruth (ma : M RV) : M Bool := mBind ma fun r => mBind (mRead r.keep) fun d => mGet (truthD d)
theorem st_truth {ma : M RV} (ha : SE fx X Wx a ma) (he : ∀ whole, isTrue a X.env whole = (do let v ← whole; standAt a.pos; holding [v] (truthy v)) := by intro _; rfl) : ST fx X Wx a (mTruth ma) := by
  obtain ⟨ta, pa, qa⟩ := ha.ex
  refine ⟨_, pt_truth pa he, fun F G H sd σ Q S h => one qa S h fun F1 G1 H1 sd1 ra v e1 e2 S1 r1 h => ?_⟩
  obtain ⟨x, k1, h⟩ := h.read
  obtain ⟨k, k2, h⟩ := h.get
  exact ⟨k, truth_ok (r1.read S1 k1) k2, h F1 G1 H1 k (Same.refl _) (Same.refl _) S1 rfl⟩
theorem se_chain {op op' : CmpOp} {g g' : D → D → Option RV} {ma mb mc : M RV} (ho : OpS fx X (compareOp op) g) (ho' : OpS fx X (compareOp op') g') (ha : SE fx X Wx a ma) (hb : SE fx X Wx b mb) (hc : SE fx X Wx c mc)
    (hm : lastMarks [op, op'] [b, c] = false := by with_unfolding_all rfl) : SE fx X Wx (.Compare a [op, op'] [b, c] pos) (mChain g g' ma mb mc) := by
  obtain ⟨r, h1, h2⟩ := ho
  obtain ⟨r', h1', h2'⟩ := ho'
  obtain ⟨ta, pa, qa⟩ := ha.ex
  obtain ⟨tb, pb, qb⟩ := hb.ex
  obtain ⟨tc, pc, qc⟩ := hc.ex
  exact ⟨_, pe_chain h1 h1' pa pb pc hm, fun F G H sd σ Q S h => chain_in h2 h2' qa qb qc S h⟩
/-- a Bool out of a result -/
def mB (m : M RV) : M Bool := mBind m fun r => mGet r.b?
theorem Po.toB {W : Wd} {F G : Hp} {σ : St} {Q : Bool → Hp → Prop} {m : M RV} {sd : List SV} (h : Po W fx F G σ Wx RlT Q (mB m sd)) : Po W fx F G σ Wx (RlE W fx σ) (fun x H => ∃ k, x = .bl k ∧ Q k H) (m sd) := by
  unfold mB mBind at h
  cases e : m sd with
  | fail => rw [e] at h; exact h
  | exc x sd1 => rw [e] at h; exact h
  | ok r sd1 =>
    rw [e] at h
    obtain ⟨k, k1, h⟩ := Po.get h
    exact fun F' G' H' b e1 e2 S q => ⟨k, RVR.bool q k1, h F' G' H' k e1 e2 S rfl⟩
theorem st_chain {op op' : CmpOp} {g g' : D → D → Option RV} {ma mb mc : M RV} (ho : OpS fx X (compareOp op) g) (ho' : OpS fx X (compareOp op') g') (ha : SE fx X Wx a ma) (hb : SE fx X Wx b mb) (hc : SE fx X Wx c mc)
    (hm : lastMarks [op, op'] [b, c] = false := by with_unfolding_all rfl) : ST fx X Wx (.Compare a [op, op'] [b, c] pos) (mB (mChain g g' ma mb mc)) := by
  obtain ⟨r, h1, h2⟩ := ho
  obtain ⟨r', h1', h2'⟩ := ho'
  obtain ⟨ta, pa, qa⟩ := ha.ex
  obtain ⟨tb, pb, qb⟩ := hb.ex
  obtain ⟨tc, pc, qc⟩ := hc.ex
  exact ⟨_, pt_chain h1 h1' pa pb pc hm, fun F G H sd σ Q S h => chain_in h2 h2' qa qb qc S h.toB⟩
def mAndT (ma mb : M Bool) : M Bool := mBind ma fun k => if k then mb else mPure false
def mOrT (ma mb : M Bool) : M Bool := mBind ma fun k => if k then mPure true else mb
def mNotT (ma : M Bool) : M Bool := mBind ma fun k => mPure (!k)
theorem SW.st {m : M Bool} (h : SW fx X Wx e m) : ST fx X Wx e m := by
  obtain ⟨t, p, q⟩ := h.ex
  exact ⟨t, p.pt, q⟩
theorem Po.bindB {W : Wd} {F G : Hp} {σ : St} {Q : Bool → Hp → Prop} {ma : M Bool} {k : Bool → M Bool} {sd : List SV} {T : Bool → Hp → Prop} (h : Po W fx F G σ Wx RlT Q (mBind ma k sd))
    (ht : ∀ F' G' H' sd' c, Same F F' → Same G G' → SR W fx F' G' H' sd' σ → Po W fx F' G' σ Wx RlT Q (k c sd') → T c H') : Po W fx F G σ Wx RlT T (ma sd) := by
  unfold mBind at h
  cases e : ma sd with
  | fail => rw [e] at h; exact h
  | exc x sd1 => rw [e] at h; exact h
  | ok r sd1 =>
    rw [e] at h
    intro F' G' H' b e1 e2 S q
    subst q
    exact ht F' G' H' sd1 r e1 e2 S (Po.mono e1 e2 h)
theorem sw_and1 {ma : M Bool} (ha : ST fx X Wx a ma) : SW fx X Wx (.BoolOp .And [a] pos) ma := by
  obtain ⟨t, p, q⟩ := ha.ex
  exact ⟨t, pw_and1 p, q⟩
theorem sw_or1 {ma : M Bool} (ha : ST fx X Wx a ma) : SW fx X Wx (.BoolOp .Or [a] pos) ma := by
  obtain ⟨t, p, q⟩ := ha.ex
  exact ⟨t, pw_or1 p, q⟩
theorem sw_and {rest : List Expr} {ma mb : M Bool} (ha : ST fx X Wx a ma) (hb : SW fx X Wx (.BoolOp .And (b :: rest) pos) mb) : SW fx X Wx (.BoolOp .And (a :: b :: rest) pos) (mAndT ma mb) := by
  obtain ⟨t, p, q⟩ := ha.ex
  obtain ⟨u, p', q'⟩ := hb.ex
  refine ⟨_, pw_and p p', fun F G H sd σ Q S h => q F G H sd σ _ S (Po.bindB h fun F1 G1 H1 sd1 c e1 e2 S1 h => ?_)⟩
  cases c with
  | true => exact iteT (q' F1 G1 H1 sd1 σ Q S1 h)
  | false => exact iteF (h F1 G1 H1 false (Same.refl _) (Same.refl _) S1 rfl)
theorem sw_or {rest : List Expr} {ma mb : M Bool} (ha : ST fx X Wx a ma) (hb : SW fx X Wx (.BoolOp .Or (b :: rest) pos) mb) : SW fx X Wx (.BoolOp .Or (a :: b :: rest) pos) (mOrT ma mb) := by
  obtain ⟨t, p, q⟩ := ha.ex
  obtain ⟨u, p', q'⟩ := hb.ex
  refine ⟨_, pw_or p p', fun F G H sd σ Q S h => q F G H sd σ _ S (Po.bindB h fun F1 G1 H1 sd1 c e1 e2 S1 h => ?_)⟩
  cases c with
  | true => exact iteT (h F1 G1 H1 true (Same.refl _) (Same.refl _) S1 rfl)
  | false => exact iteF (q' F1 G1 H1 sd1 σ Q S1 h)
theorem st_not {ma : M Bool} (ha : ST fx X Wx a ma) : ST fx X Wx (.UnaryOp .Not a pos) (mNotT ma) := by
  obtain ⟨t, p, q⟩ := ha.ex
  refine ⟨_, pt_not p, fun F G H sd σ Q S h => q F G H sd σ _ S (Po.bindB h fun F1 G1 H1 sd1 c e1 e2 S1 h => ?_)⟩
  exact h F1 G1 H1 (!c) (Same.refl _) (Same.refl _) S1 rfl
/-- and, or, not as values: all but the last a Bool -/
def mAndV (ma mb : M RV) : M RV := mBind ma fun r => mBind (mGet r.keep.b?) fun k => if k then mb else mPure (.val (.bl false))
def mOrV (ma mb : M RV) : M RV := mBind ma fun r => mBind (mGet r.keep.b?) fun k => if k then mPure (.val (.bl true)) else mb
def mNotV (ma : M RV) : M RV := mBind ma fun r => mBind (mGet r.keep.b?) fun k => mPure (.val (.bl (!k)))
theorem se_one {op : BoolOp} {ma : M RV} (ha : SE fx X Wx a ma) : SE fx X Wx (.BoolOp op [a] pos) ma := by
  obtain ⟨t, p, q⟩ := ha.ex
  exact ⟨t, pe_one p, q⟩
theorem se_and {rest : List Expr} {ma mb : M RV} (ha : SE fx X Wx a ma) (hb : SE fx X Wx (.BoolOp .And (b :: rest) pos) mb) : SE fx X Wx (.BoolOp .And (a :: b :: rest) pos) (mAndV ma mb) := by
  obtain ⟨t, p, q⟩ := ha.ex
  obtain ⟨u, p', q'⟩ := hb.ex
  refine ⟨_, pe_and p p', fun F G H sd σ Q S h => one q S h fun F1 G1 H1 sd1 ra v e1 e2 S1 r1 h => ?_⟩
  obtain ⟨k, k1, h⟩ := h.getB
  refine ⟨k, RVR.bool r1 k1, ?_⟩
  cases k with
  | true => exact iteT (q' F1 G1 H1 sd1 σ Q S1 h)
  | false => exact iteF (h F1 G1 H1 _ (Same.refl _) (Same.refl _) S1 (.bl false))
theorem se_or {rest : List Expr} {ma mb : M RV} (ha : SE fx X Wx a ma) (hb : SE fx X Wx (.BoolOp .Or (b :: rest) pos) mb) : SE fx X Wx (.BoolOp .Or (a :: b :: rest) pos) (mOrV ma mb) := by
  obtain ⟨t, p, q⟩ := ha.ex
  obtain ⟨u, p', q'⟩ := hb.ex
  refine ⟨_, pe_or p p', fun F G H sd σ Q S h => one q S h fun F1 G1 H1 sd1 ra v e1 e2 S1 r1 h => ?_⟩
  obtain ⟨k, k1, h⟩ := h.getB
  refine ⟨k, RVR.bool r1 k1, ?_⟩
  cases k with
  | true => exact iteT (h F1 G1 H1 _ (Same.refl _) (Same.refl _) S1 (.bl true))
  | false => exact iteF (q' F1 G1 H1 sd1 σ Q S1 h)
theorem se_not {ma : M RV} (ha : SE fx X Wx a ma) : SE fx X Wx (.UnaryOp .Not a pos) (mNotV ma) := by
  obtain ⟨t, p, q⟩ := ha.ex
  refine ⟨_, pe_not p, fun F G H sd σ Q S h => one q S h fun F1 G1 H1 sd1 ra v e1 e2 S1 r1 h => ?_⟩
  obtain ⟨k, k1, h⟩ := h.getB
  exact ⟨k, RVR.bool r1 k1, h F1 G1 H1 _ (Same.refl _) (Same.refl _) S1 (.bl _)⟩
def mIf (mc : M Bool) (ma mb : M RV) : M RV := mBind mc fun k => if k then ma else mb
theorem se_if {mc : M Bool} {ma mb : M RV} (hc : ST fx X Wx c mc) (ha : SE fx X Wx a ma) (hb : SE fx X Wx b mb) : SE fx X Wx (.IfExp c a b pos) (mIf mc ma mb) := by
  obtain ⟨t, p, q⟩ := hc.ex
  obtain ⟨u, p', q'⟩ := ha.ex
  obtain ⟨u2, p2, q2⟩ := hb.ex
  refine ⟨_, pe_ifExp p p' p2, fun F G H sd σ Q S h => q F G H sd σ _ S ?_⟩
  unfold mIf mBind at h
  cases e : mc sd with
  | fail => rw [e] at h; exact h
  | exc x sd1 => rw [e] at h; exact h
  | ok k sd1 =>
    rw [e] at h
    intro F1 G1 H1 b e1 e2 S1 qb
    subst qb
    have h := Po.mono e1 e2 h
    cases k with
    | true => exact iteT (q' F1 G1 H1 sd1 σ Q S1 h)
    | false => exact iteF (q2 F1 G1 H1 sd1 σ Q S1 h)
def D.isNon : D → Bool
  | .non => true
  | _ => false
def mIsN (ma : M RV) : M RV := mBind ma fun r => mBind (mRead r.keep) fun d => mPure (.val (.bl d.isNon))
def mNotN (ma : M RV) : M RV := mBind ma fun r => mBind (mRead r.keep) fun d => mPure (.val (.bl !d.isNon))
theorem Rep.isN {W : Wd} {H : Hp} {d : D} {v : V} (r : Rep W H d v) : decide (v = .non) = d.isNon := by
  cases r <;> simp [D.isNon]
theorem isn_in {ta : TE} {ma : M RV} (qa : ∀ F G H sd σ Q, SR (wd X) fx F G H sd σ → Po (wd X) fx F G σ Wx (RlE (wd X) fx σ) Q (ma sd) → ta σ H Q) {F G H : Hp} {sd : List SV} {σ : St} {Q : VK} (S : SR (wd X) fx F G H sd σ) (h : Po (wd X) fx F G σ Wx (RlE (wd X) fx σ) Q (mIsN ma sd)) : tIsN ta σ H Q := by
  refine one qa S h fun F1 G1 H1 sd1 ra v e1 e2 S1 r1 h => ?_
  obtain ⟨x, k1, h⟩ := h.read
  rw [(r1.read S1 k1).isN]
  exact h F1 G1 H1 _ (Same.refl _) (Same.refl _) S1 (.bl _)
theorem notn_in {ta : TE} {ma : M RV} (qa : ∀ F G H sd σ Q, SR (wd X) fx F G H sd σ → Po (wd X) fx F G σ Wx (RlE (wd X) fx σ) Q (ma sd) → ta σ H Q) {F G H : Hp} {sd : List SV} {σ : St} {Q : VK} (S : SR (wd X) fx F G H sd σ) (h : Po (wd X) fx F G σ Wx (RlE (wd X) fx σ) Q (mNotN ma sd)) : tNotN ta σ H Q := by
  refine one qa S h fun F1 G1 H1 sd1 ra v e1 e2 S1 r1 h => ?_
  obtain ⟨x, k1, h⟩ := h.read
  rw [(r1.read S1 k1).isN]
  exact h F1 G1 H1 _ (Same.refl _) (Same.refl _) S1 (.bl _)
theorem se_isN {ma : M RV} {j pos'} (ha : SE fx X Wx a ma) : SE fx X Wx (.Compare a [.Is] [.Constant .none j pos'] pos) (mIsN ma) := by
  obtain ⟨t, p, q⟩ := ha.ex
  exact ⟨_, pe_cmp (pc_isN p), fun F G H sd σ Q S h => isn_in q S h⟩
theorem se_notN {ma : M RV} {j pos'} (ha : SE fx X Wx a ma) : SE fx X Wx (.Compare a [.IsNot] [.Constant .none j pos'] pos) (mNotN ma) := by
  obtain ⟨t, p, q⟩ := ha.ex
  exact ⟨_, pe_cmp (pc_notN p), fun F G H sd σ Q S h => notn_in q S h⟩
theorem st_isN {ma : M RV} {j pos'} (ha : SE fx X Wx a ma) : ST fx X Wx (.Compare a [.Is] [.Constant .none j pos'] pos) (mB (mIsN ma)) := by
  obtain ⟨t, p, q⟩ := ha.ex
  exact ⟨_, pt_cmp (pc_isN p), fun F G H sd σ Q S h => isn_in q S h.toB⟩
theorem st_notN {ma : M RV} {j pos'} (ha : SE fx X Wx a ma) : ST fx X Wx (.Compare a [.IsNot] [.Constant .none j pos'] pos) (mB (mNotN ma)) := by
  obtain ⟨t, p, q⟩ := ha.ex
  exact ⟨_, pt_cmp (pc_notN p), fun F G H sd σ Q S h => notn_in q S h.toB⟩

/-! ### argument lists -/
def mNil : M (List RV) := mPure []
def mCons (ma : M RV) (mr : M (List RV)) : M (List RV) := mBind ma fun r => mBind mr fun rs => mPure (r.keep :: rs)
theorem sa_nil : SA fx X Wx [] mNil := ⟨_, pa_nil, fun F G H sd σ Q S h => h F G H [] (Same.refl _) (Same.refl _) S ⟨rfl, fun i r v h => by simp at h⟩⟩
theorem RV.keep_keep (r : RV) : r.keep.keep = r.keep := by cases r <;> rfl
theorem sa_cons {es : List Expr} {ma : M RV} {mr : M (List RV)} (ha : SE fx X Wx e ma) (hr : SA fx X Wx es mr) (hs : starEach (e :: es) X.env = (false, eval e X.env) :: starEach es X.env := by rfl) : SA fx X Wx (e :: es) (mCons ma mr) := by
  obtain ⟨t, p, q⟩ := ha.ex
  obtain ⟨u, p', q'⟩ := hr.ex
  refine ⟨_, pa_cons p p' hs, fun F G H sd σ Q S h => one q S h fun F1 G1 H1 sd1 ra v e1 e2 S1 r1 h => q' F1 G1 H1 sd1 σ _ S1 ?_⟩
  unfold mBind at h
  cases e : mr sd1 with
  | fail => rw [e] at h; exact h
  | exc x sd2 => rw [e] at h; exact h
  | ok rs sd2 =>
    rw [e] at h
    intro F2 G2 H2 vs e3 e4 S2 r2
    refine Po.mono e3 e4 h F2 G2 H2 (v :: vs) (Same.refl _) (Same.refl _) S2 ⟨by simp [r2.1], fun i r w h1 h2 => ?_⟩
    cases i with
    | zero =>
      simp at h1 h2
      subst h1 h2
      rw [RV.keep_keep]
      exact r1.mono e3 e4
    | succ i => exact r2.2 i r w (by simpa using h1) (by simpa using h2)
def mReads : List RV → M (List D)
  | [] => mPure []
  | r :: rs => mBind (mRead r.keep) fun d => mBind (mReads rs) fun ds => mPure (d :: ds)
theorem reads_ok {W : Wd} {F G H : Hp} {σ : St} {sd sd' : List SV} (S : SR W fx F G H sd σ) : ∀ {rs : List RV} {vs : List V} {ds : List D}, RVRs W fx F G H sd σ rs vs → mReads rs sd = .ok ds sd' → sd' = sd ∧ RepL W H ds vs
  | [], vs, ds, r, h => by
    have : vs = [] := by have := r.1; cases vs; rfl; simp at this
    subst this
    cases h
    exact ⟨rfl, RepL.nil⟩
  | r :: rs, vs, ds, q, h => by
    cases vs with
    | nil => have := q.1; simp at this
    | cons v vs =>
      unfold mReads mBind mRead at h
      cases e : r.keep.d? sd with
      | none => rw [e] at h; cases h
      | some d =>
        rw [e] at h
        have h : (mReads rs sd).bind (fun ds => mPure (d :: ds)) = .ok ds sd' := h
        cases e2 : mReads rs sd with
        | fail => rw [e2] at h; cases h
        | exc x s => rw [e2] at h; cases h
        | ok ds2 sd2 =>
          rw [e2] at h
          cases h
          obtain ⟨e3, q3⟩ := reads_ok S (rs := rs) (vs := vs) ⟨by have := q.1; simpa using this, fun i r w h1 h2 => q.2 (i + 1) r w (by simpa using h1) (by simpa using h2)⟩ e2
          subst e3
          exact ⟨rfl, RepL.cons (RVR.read S (q.2 0 r v rfl rfl) e) q3⟩
/-- a value that may be stored: own ones become shared -/
def mShare : RV → M D
  | .val d => mPure d
  | .fresh d => mPure d
  | .bval d => fun sd => if d.imm then .ok d sd else .fail
  | .slot i => fun sd => match sd[i]?.getD .no with
    | .own d => .ok d (sd.set i (.sh d))
    | .sh d => .ok d sd
    | _ => .fail
def mShares : List RV → M (List D)
  | [] => mPure []
  | r :: rs => mBind (mShare r) fun d => mBind (mShares rs) fun ds => mPure (d :: ds)
theorem share_ok {W : Wd} {F G H : Hp} {σ : St} {sd sd' : List SV} {r : RV} {v : V} {d : D} (S : SR W fx F G H sd σ) (q : RVR W fx F G H sd σ r.keep v) (h : mShare r sd = .ok d sd') : ∃ F' G', Same F F' ∧ Same G G' ∧ SR W fx F' G' H sd' σ ∧ Rep W F' d v := by
  cases r with
  | val d' => cases h; exact ⟨F, G, Same.refl _, Same.refl _, S, q⟩
  | fresh d' => cases h; exact ⟨F, G, Same.refl _, Same.refl _, S, q⟩
  | bval d' =>
    unfold mShare at h
    dsimp only at h
    split at h
    · rename_i hi
      cases h
      exact ⟨F, G, Same.refl _, Same.refl _, S, Rep.imm S.tup (Rep.keep S.gh q) hi⟩
    · cases h
  | slot i =>
    unfold mShare at h
    dsimp only at h
    have q : σ[i]? = some (some v) := q
    cases e : sd[i]? with
    | none => rw [e] at h; cases h
    | some s =>
      rw [e] at h
      cases s with
      | own d' =>
        cases h
        obtain ⟨F', G', w, e1, e2, S', e3, e4⟩ := S.frzSlot e
        rw [q] at e3; cases e3
        exact ⟨F', G', e1, e2, S', e4⟩
      | sh d' =>
        cases h
        obtain ⟨w, e3, e4⟩ := S.slot i _ e
        rw [q] at e3; cases e3
        exact ⟨F, G, Same.refl _, Same.refl _, S, e4⟩
      | _ => cases h
theorem shares_ok {W : Wd} {H : Hp} {σ : St} : ∀ {rs : List RV} {vs : List V} {ds : List D} {F G : Hp} {sd sd' : List SV}, SR W fx F G H sd σ → RVRs W fx F G H sd σ rs vs → mShares rs sd = .ok ds sd' → ∃ F' G', Same F F' ∧ Same G G' ∧ SR W fx F' G' H sd' σ ∧ RepL W F' ds vs
  | [], vs, ds, F, G, sd, sd', S, r, h => by
    have : vs = [] := by have := r.1; cases vs; rfl; simp at this
    subst this
    cases h
    exact ⟨F, G, Same.refl _, Same.refl _, S, RepL.nil⟩
  | r :: rs, vs, ds, F, G, sd, sd', S, q, h => by
    cases vs with
    | nil => have := q.1; simp at this
    | cons v vs =>
      unfold mShares mBind at h
      cases e : mShare r sd with
      | fail => rw [e] at h; cases h
      | exc x s => rw [e] at h; cases h
      | ok d sd1 =>
        rw [e] at h
        obtain ⟨F1, G1, e1, e2, S1, p1⟩ := share_ok S (q.2 0 r v rfl rfl) e
        have h : (mShares rs sd1).bind (fun ds => mPure (d :: ds)) = .ok ds sd' := h
        cases e3 : mShares rs sd1 with
        | fail => rw [e3] at h; cases h
        | exc x s => rw [e3] at h; cases h
        | ok ds2 sd2 =>
          rw [e3] at h
          cases h
          obtain ⟨F2, G2, e4, e5, S2, p2⟩ := shares_ok (rs := rs) (vs := vs) S1 ⟨by have := q.1; simpa using this, fun i r w h1 h2 => (q.2 (i + 1) r w (by simpa using h1) (by simpa using h2)).mono e1 e2⟩ e3
          exact ⟨F2, G2, e1.trans e4, e2.trans e5, S2, RepL.cons (p1.keep e4) p2⟩
theorem args {ta : TA} {ma : M (List RV)} (ha : ∀ F G H sd σ Q, SR (wd X) fx F G H sd σ → Po (wd X) fx F G σ Wx (fun F G H sd rs vs => RVRs (wd X) fx F G H sd σ rs vs) Q (ma sd) → ta σ H Q)
    {α β : Type} {k : List RV → M α} {Rl : Hp → Hp → Hp → List SV → α → β → Prop} {Q : β → Hp → Prop} {T : List V → Hp → Prop}
    {F G H : Hp} {sd : List SV} {σ : St} (S : SR (wd X) fx F G H sd σ) (h : Po (wd X) fx F G σ Wx Rl Q ((mBind ma fun ra => k ra) sd))
    (ht : ∀ F' G' H' sd' ra vs, Same F F' → Same G G' → SR (wd X) fx F' G' H' sd' σ → RVRs (wd X) fx F' G' H' sd' σ ra vs → Po (wd X) fx F' G' σ Wx Rl Q (k ra sd') → T vs H') :
    ta σ H fun x H1 => T x H1 := by
  refine ha F G H sd σ _ S ?_
  unfold mBind at h
  cases ea : ma sd with
  | fail => rw [ea] at h; exact h
  | exc x sd1 => rw [ea] at h; exact h
  | ok ra sd1 =>
    rw [ea] at h
    intro F1 G1 H1 v e1 e2 S1 r1
    exact ht F1 G1 H1 sd1 ra v e1 e2 S1 r1 (h.mono e1 e2)
theorem Po.shares {W : Wd} {F G H : Hp} {σ : St} {Q : VK} {rs : List RV} {vs : List V} {k : List D → M RV} {sd : List SV} (S : SR W fx F G H sd σ) (q : RVRs W fx F G H sd σ rs vs) (h : Po W fx F G σ Wx (RlE W fx σ) Q ((mBind (mShares rs) k) sd)) :
    ∃ ds sd' F' G', Same F F' ∧ Same G G' ∧ SR W fx F' G' H sd' σ ∧ RepL W F' ds vs ∧ Po W fx F' G' σ Wx (RlE W fx σ) Q (k ds sd') := by
  unfold mBind at h
  cases e : mShares rs sd with
  | fail => rw [e] at h; exact h.elim
  | exc x s =>
    exfalso
    have : ∀ (rs : List RV) (sd : List SV) x s, mShares rs sd ≠ .exc x s := fun rs => by
      induction rs with
      | nil => intro sd x s z; cases z
      | cons r rs ih =>
        intro sd x s z
        unfold mShares mBind at z
        cases e : mShare r sd with
        | fail => rw [e] at z; cases z
        | exc x' s' =>
          unfold mShare at e
          split at e <;> first | (cases e; done) | (split at e <;> cases e)
        | ok d sd1 =>
          rw [e] at z
          have z : (mShares rs sd1).bind (fun ds => mPure (d :: ds)) = .exc x s := z
          cases e2 : mShares rs sd1 with
          | fail => rw [e2] at z; cases z
          | exc x' s' => exact ih _ _ _ e2
          | ok ds s' => rw [e2] at z; cases z
    exact this _ _ _ _ e
  | ok ds sd' =>
    rw [e] at h
    obtain ⟨F', G', e1, e2, S', p⟩ := shares_ok S q e
    exact ⟨ds, sd', F', G', e1, e2, S', p, Po.mono e1 e2 h⟩
def mTup (ma : M (List RV)) : M RV := mBind ma fun rs => mBind (mShares rs) fun ds => if ds.length ≤ sizeLine then mPure (.val (.tup ds)) else mFail
def mLst (ma : M (List RV)) : M RV := mBind ma fun rs => mBind (mShares rs) fun ds => if ds.length ≤ sizeLine then mPure (.fresh (.lst ds)) else mFail
theorem se_tup {x1} {es : List Expr} {ma : M (List RV)} (h : SA fx X Wx es ma) : SE fx X Wx (.Tuple es x1 pos) (mTup ma) := by
  obtain ⟨t, p, q⟩ := h.ex
  refine ⟨_, pe_tup p, fun F G H sd σ Q S h => args q S h fun F1 G1 H1 sd1 rs vs e1 e2 S1 r1 h => ?_⟩
  obtain ⟨ds, sd2, F2, G2, e3, e4, S2, p2, h⟩ := h.shares S1 r1
  split at h
  · rename_i hz
    exact ⟨by rw [← p2.n]; exact hz, fun p hp => out_newSh S2 (fun F' G' H' w => h F' G' H' w) p2 hp⟩
  · exact h.elim
theorem se_lst {es : List Expr} {ma : M (List RV)} (h : SA fx X Wx es ma) : SE fx X Wx (.List es pos) (mLst ma) := by
  obtain ⟨t, p, q⟩ := h.ex
  refine ⟨_, pe_lst p, fun F G H sd σ Q S h => args q S h fun F1 G1 H1 sd1 rs vs e1 e2 S1 r1 h => ?_⟩
  obtain ⟨ds, sd2, F2, G2, e3, e4, S2, p2, h⟩ := h.shares S1 r1
  split at h
  · rename_i hz
    exact ⟨by rw [← p2.n]; exact hz, fun p hp => out_newLst S2 (fun F' G' H' w => h F' G' H' w) p2 hp⟩
  · exact h.elim

/-! ### built-ins -/
def CallS (fx : Fx) (X : Cx) (f : Value) (g : List D → Option RV) : Prop :=
  ∃ r : List V → Hp → VK → Prop, CallR X f r ∧ ∀ F G H sd σ ds vs rv Q, SR (wd X) fx F G H sd σ → RepL (wd X) H ds vs → g ds = some rv →
    (∀ F' G' H' w, Same F F' → Same G G' → SR (wd X) fx F' G' H' sd σ → RVR (wd X) fx F' G' H' sd σ rv w → Q w H') → r vs H Q
def mCallB (g : List D → Option RV) (ma : M (List RV)) : M RV := mBind ma fun rs => mBind (mReads rs) fun ds => mGet (g ds)
theorem Po.reads {W : Wd} {F G H : Hp} {σ : St} {Q : VK} {rs : List RV} {vs : List V} {k : List D → M RV} {sd : List SV} (S : SR W fx F G H sd σ) (q : RVRs W fx F G H sd σ rs vs) (h : Po W fx F G σ Wx (RlE W fx σ) Q ((mBind (mReads rs) k) sd)) :
    ∃ ds, RepL W H ds vs ∧ Po W fx F G σ Wx (RlE W fx σ) Q (k ds sd) := by
  unfold mBind at h
  cases e : mReads rs sd with
  | fail => rw [e] at h; exact h.elim
  | exc x s =>
    exfalso
    have : ∀ (rs : List RV) (sd : List SV) x s, mReads rs sd ≠ .exc x s := fun rs => by
      induction rs with
      | nil => intro sd x s z; cases z
      | cons r rs ih =>
        intro sd x s z
        unfold mReads mBind mRead at z
        cases e : r.keep.d? sd with
        | none => rw [e] at z; cases z
        | some d =>
          rw [e] at z
          have z : (mReads rs sd).bind (fun ds => mPure (d :: ds)) = .exc x s := z
          cases e2 : mReads rs sd with
          | fail => rw [e2] at z; cases z
          | exc x' s' => exact ih _ _ _ e2
          | ok ds s' => rw [e2] at z; cases z
    exact this _ _ _ _ e
  | ok ds sd' =>
    rw [e] at h
    obtain ⟨rfl, p⟩ := reads_ok S q e
    exact ⟨ds, p, h⟩
theorem se_callB {x : Str} {p : Pos} {es : List Expr} {id : String} {g : List D → Option RV} {ma : M (List RV)} (hc : CallS fx X (.builtin id) g) (hg : Gl X x) (hm : X.mg x = none) (hv : bootBuiltins x = some (.builtin id)) (ha : SA fx X Wx (e :: es) ma) (hn : x ≠ "__name__" := by decide) (hdb : (x == ("__debug__" : Str)) = false := by decide)
    (he : starEach (e :: es) X.env = (false, eval e X.env) :: starEach es X.env := by rfl) (hpl : (backTo pos (starEach es X.env)).any (·.1) = false := by rfl) : SE fx X Wx (.Call (.Name x p) (e :: es) [] pos) (mCallB g ma) := by
  obtain ⟨r, h1, h2⟩ := hc
  obtain ⟨t, pa, q⟩ := ha.ex
  refine ⟨_, pe_callB h1 hg hm hv pa hn hdb he hpl, fun F G H sd σ Q S h => args q S h fun F1 G1 H1 sd1 rs vs e1 e2 S1 r1 h => ?_⟩
  obtain ⟨ds, p2, h⟩ := h.reads S1 r1
  obtain ⟨rv, k3, h⟩ := h.get
  exact h2 F1 G1 H1 sd1 σ ds vs rv Q S1 p2 k3 h
theorem se_callTy {x : Str} {p : Pos} {es : List Expr} {T : String} {g : List D → Option RV} {ma : M (List RV)} (hc : CallS fx X (.type T) g) (hg : Gl X x) (hm : X.mg x = none) (hv : bootBuiltins x = some (.type T)) (ha : SA fx X Wx (e :: es) ma) (hn : x ≠ "__name__" := by decide) (hdb : (x == ("__debug__" : Str)) = false := by decide)
    (he : starEach (e :: es) X.env = (false, eval e X.env) :: starEach es X.env := by rfl) (hpl : (backTo pos (starEach es X.env)).any (·.1) = false := by rfl) : SE fx X Wx (.Call (.Name x p) (e :: es) [] pos) (mCallB g ma) := by
  obtain ⟨r, h1, h2⟩ := hc
  obtain ⟨t, pa, q⟩ := ha.ex
  refine ⟨_, pe_callTy h1 hg hm hv pa hn hdb he hpl, fun F G H sd σ Q S h => args q S h fun F1 G1 H1 sd1 rs vs e1 e2 S1 r1 h => ?_⟩
  obtain ⟨ds, p2, h⟩ := h.reads S1 r1
  obtain ⟨rv, k3, h⟩ := h.get
  exact h2 F1 G1 H1 sd1 σ ds vs rv Q S1 p2 k3 h
theorem RepL.one_inv {W : Wd} {H : Hp} {d : D} {vs : List V} (r : RepL W H [d] vs) : ∃ v, vs = [v] ∧ Rep W H d v := by
  obtain ⟨v, ws, rfl, h1, h2⟩ := r.cons_inv
  rw [h2.nil_inv]
  exact ⟨v, rfl, h1⟩
theorem RepL.two_inv {W : Wd} {H : Hp} {d e : D} {vs : List V} (r : RepL W H [d, e] vs) : ∃ v w, vs = [v, w] ∧ Rep W H d v ∧ Rep W H e w := by
  obtain ⟨v, ws, rfl, h1, h2⟩ := r.cons_inv
  obtain ⟨w, rfl, h3⟩ := h2.one_inv
  exact ⟨v, w, rfl, h1, h3⟩
def gLen : List D → Option RV
  | [.str x] => if x.length ≤ sizeLine then some (.val (.int x.length)) else none
  | [.tup xs] => some (.val (.int xs.length))
  | [.lst xs] => some (.val (.int xs.length))
  | _ => none
theorem cs_len : CallS fx X (.builtin "len") gLen := by
  refine ⟨_, call_len, fun F G H sd σ ds vs rv Q S r h k => ?_⟩
  unfold gLen at h
  split at h
  · split at h
    · rename_i hz
      cases h
      obtain ⟨v, rfl, q⟩ := r.one_inv
      obtain rfl := q.str_inv
      exact ⟨_, _, rfl, ⟨hz, rfl⟩, out_flat S k (.int _)⟩
    · cases h
  · cases h
    obtain ⟨v, rfl, q⟩ := r.one_inv
    obtain ⟨p, us, rfl, h1, h2⟩ := q.tup_inv
    exact ⟨_, _, rfl, .inr ⟨us, h1, rfl⟩, by rw [← h2.n]; exact out_flat S k (.int _)⟩
  · cases h
    obtain ⟨v, rfl, q⟩ := r.one_inv
    obtain ⟨p, us, rfl, h1, h2⟩ := q.lst_inv
    exact ⟨_, _, rfl, .inl ⟨us, h1, rfl⟩, by rw [← h2.n]; exact out_flat S k (.int _)⟩
  · cases h
def gAbs : List D → Option RV
  | [.int i] => some (.val (.int (if i < 0 then -i else i)))
  | _ => none
theorem cs_abs : CallS fx X (.builtin "abs") gAbs := by
  refine ⟨_, call_abs, fun F G H sd σ ds vs rv Q S r h k => ?_⟩
  unfold gAbs at h
  split at h
  · cases h
    obtain ⟨v, rfl, q⟩ := r.one_inv
    obtain rfl := q.int_inv
    exact ⟨_, rfl, out_flat S k (.int _)⟩
  · cases h
def gInt : List D → Option RV
  | [.int i] => some (.val (.int i))
  | [.bl k] => some (.val (.int (if k then 1 else 0)))
  | _ => none
theorem cs_int : CallS fx X (.type "int") gInt := by
  refine ⟨_, call_int1, fun F G H sd σ ds vs rv Q S r h k => ?_⟩
  unfold gInt at h
  split at h
  · cases h
    obtain ⟨v, rfl, q⟩ := r.one_inv
    obtain rfl := q.int_inv
    exact .inl ⟨_, rfl, out_flat S k (.int _)⟩
  · cases h
    obtain ⟨v, rfl, q⟩ := r.one_inv
    obtain rfl := q.bl_inv
    exact .inr ⟨_, rfl, out_flat S k (.int _)⟩
  · cases h
def gTuple : List D → Option RV
  | [.tup xs] => if D.imms xs then some (.val (.tup xs)) else none
  | [.lst xs] => if D.imms xs then some (.val (.tup xs)) else none
  | _ => none
theorem cs_tuple : CallS fx X (.type "tuple") gTuple := by
  refine ⟨_, call_tuple_of, fun F G H sd σ ds vs rv Q S r h k => ?_⟩
  unfold gTuple at h
  split at h
  · split at h
    · rename_i hi
      cases h
      obtain ⟨v, rfl, q⟩ := r.one_inv
      have q' := q.imm S.tup (by rw [D.imm]; exact hi)
      obtain ⟨p, us, rfl, h1, h2⟩ := q.tup_inv
      exact ⟨p, us, rfl, .inr ⟨h1, out_flat S k q'⟩⟩
    · cases h
  · split at h
    · rename_i hi
      cases h
      obtain ⟨v, rfl, q⟩ := r.one_inv
      obtain ⟨p, us, rfl, h1, h2⟩ := q.lst_inv
      exact ⟨p, us, rfl, .inl ⟨h1, fun l hl => out_newSh S k (RepL.immF S hi h2) hl⟩⟩
    · cases h
  · cases h
def gList : List D → Option RV
  | [.tup xs] => if D.imms xs then some (.fresh (.lst xs)) else none
  | [.lst xs] => if D.imms xs then some (.fresh (.lst xs)) else none
  | _ => none
theorem cs_list : CallS fx X (.type "list") gList := by
  refine ⟨_, call_list_of, fun F G H sd σ ds vs rv Q S r h k => ?_⟩
  unfold gList at h
  split at h
  · split at h
    · rename_i hi
      cases h
      obtain ⟨v, rfl, q⟩ := r.one_inv
      obtain ⟨p, us, rfl, h1, h2⟩ := q.tup_inv
      exact ⟨p, us, rfl, .inr h1, fun l hl => out_newLst S k (RepL.immF S hi h2) hl⟩
    · cases h
  · split at h
    · rename_i hi
      cases h
      obtain ⟨v, rfl, q⟩ := r.one_inv
      obtain ⟨p, us, rfl, h1, h2⟩ := q.lst_inv
      exact ⟨p, us, rfl, .inl h1, fun l hl => out_newLst S k (RepL.immF S hi h2) hl⟩
    · cases h
  · cases h
end
end Av

/-! isinstance, subscripts, slices, lists' methods -/
namespace Av
open PySem L2
section
variable {fx : Fx} {X : Cx} {Wx : WX} {e a b c : Expr} {pos : Pos}

/-! ### isinstance(x, T), T a built-in class -/
def D.ty : D → Option String
  | .non => some "NoneType"
  | .bl _ => some "bool"
  | .int _ => some "int"
  | .str _ => some "str"
  | .tup _ => some "tuple"
  | .lst _ => some "list"
  | .dic _ => some "dict"
  | .obj _ _ => none
theorem ty_ok {H : Hp} {d : D} {v : V} {t : String} (r : Rep (wd X) H d v) (h : d.ty = some t) : TyX X.K H v (.type t) := by
  cases r with
  | non => cases h; exact .base .non
  | bl b => cases h; exact .base (.bl b)
  | int i => cases h; exact .base (.int i)
  | str x => cases h; exact .base (.str x)
  | tup h1 _ _ =>
    cases h
    rcases h1 with (h1 | ⟨o, h1⟩) | ⟨o, its, n, h1, h2, _⟩
    · exact .base (.tup h1)
    · exact .fTuple h1
    · exact .kTuple h1 h2
  | lst h1 _ _ =>
    cases h
    rcases h1 with (h1 | ⟨o, h1⟩) | ⟨o, its, n, h1, h2, _⟩
    · exact .base (.lst h1)
    · exact .base (.frz h1)
    · exact .kList h1 h2
  | dic h1 _ _ _ => cases h; exact .base (.dK h1)
  | dicT h1 _ _ _ => cases h; exact .base (.dT h1)
  | obj h1 _ _ _ _ => cases h
/-- the answer by the names of the two types -/
def isaT : String → String → Option Bool
  | "int", t => some (t == "int" || t == "bool")
  | "bool", t => some (t == "bool")
  | "str", t => some (t == "str")
  | "tuple", t => some (t == "tuple")
  | "list", t => some (t == "list")
  | "dict", t => some (t == "dict")
  | _, _ => none
def isaD (T : String) (d : D) : Option Bool := d.ty.bind (isaT T)
theorem isa_kit {T : String} {d : D} {k : Bool} {K : PySem.W.Frag} (h : isaD T d = some k) : ∃ t, d.ty = some t ∧ PySem.W.kitOne K (.type t) (.type T) = some k := by
  unfold isaD at h
  cases e : d.ty with
  | none => rw [e] at h; cases h
  | some t =>
    rw [e] at h
    refine ⟨t, rfl, kit_ty ?_⟩
    have h : isaT T t = some k := h
    have ht : t = "NoneType" ∨ t = "bool" ∨ t = "int" ∨ t = "str" ∨ t = "tuple" ∨ t = "list" ∨ t = "dict" := by
      cases d <;> simp [D.ty] at e <;> simp [← e]
    unfold isaT at h
    split at h
    all_goals first
      | (cases h; done)
      | (cases h
         rcases ht with rfl | rfl | rfl | rfl | rfl | rfl | rfl <;> decide +kernel)
def mIsa (T : String) (ma : M RV) : M RV := mBind ma fun r => mBind (mRead r.keep) fun d => mBind (mGet (isaD T d)) fun k => mPure (.val (.bl k))
theorem se_isa {x y : Str} {p p2 : Pos} {T : String} {ma : M RV} (hg : Gl X x) (hm : X.mg x = none) (hv : bootBuiltins x = some (.builtin "isinstance")) (hg2 : Gl X y) (hm2 : X.mg y = none) (hv2 : bootBuiltins y = some (.type T)) (ha : SE fx X Wx a ma)
    (hn : x ≠ "__name__" := by decide) (hdb : (x == ("__debug__" : Str)) = false := by decide) (hn2 : y ≠ "__name__" := by decide) (hdb2 : (y == ("__debug__" : Str)) = false := by decide)
    (he : starEach [a, .Name y p2] X.env = (false, eval a X.env) :: starEach [.Name y p2] X.env := by rfl) (he2 : starEach [.Name y p2] X.env = (false, eval (.Name y p2) X.env) :: starEach [] X.env := by rfl)
    (hpl : (backTo pos (starEach [.Name y p2] X.env)).any (·.1) = false := by rfl) : SE fx X Wx (.Call (.Name x p) [a, .Name y p2] [] pos) (mIsa T ma) := by
  obtain ⟨t, pa, q⟩ := ha.ex
  refine ⟨_, pe_callB call_isi hg hm hv (pa_cons pa (pa_cons (pe_bltn (v := .ty T) hg2 hm2 hv2 rfl hn2 hdb2) pa_nil he2) he) hn hdb he hpl, fun F G H sd σ Q S h => one q S h fun F1 G1 H1 sd1 ra v e1 e2 S1 r1 h => ?_⟩
  obtain ⟨d, k1, h⟩ := h.read
  obtain ⟨k, k2, h⟩ := h.getB
  obtain ⟨t, h3, h4⟩ := isa_kit (K := X.K) k2
  exact ⟨v, .ty T, .type t, .type T, k, rfl, .ty T, ty_ok (r1.read S1 k1) h3, h4, h F1 G1 H1 _ (Same.refl _) (Same.refl _) S1 (.bl k)⟩

/-! ### subscripts -/
/-- an item of what r stands for -/
def elemOf (sd : List SV) (r : RV) (d : D) : Option RV := match r with
  | .val _ => some (.val d)
  | .fresh _ => some (.val d)
  | .bval _ => some (if d.imm then .val d else .bval d)
  | .slot i => match sd[i]?.getD .no with
    | .own _ => some (.val d)
    | .io _ => some (.val d)
    | _ => none
/-- the items of a list or tuple, by what they may be used for -/
theorem RVR.elems {W : Wd} {F G H : Hp} {sd : List SV} {σ : St} {r : RV} {v : V} {d : D} {xs : List D} (S : SR W fx F G H sd σ) (q : RVR W fx F G H sd σ r.keep v) (h : r.keep.d? sd = some d) (hd : d = .tup xs ∨ d = .lst xs) :
    ∃ a vs, v = .ref a ∧ ((d = .tup xs ∧ SqT W.K H a vs) ∨ (d = .lst xs ∧ SqL W.K H a vs)) ∧ xs.length = vs.length ∧ ∀ (j : Nat) x w rv, xs[j]? = some x → vs[j]? = some w → elemOf sd r.keep x = some rv → RVR W fx F G H sd σ rv w := by
  have sq : ∀ {J : Hp}, Same J H → Rep W J d v → ∃ a vs, v = .ref a ∧ ((d = .tup xs ∧ SqT W.K H a vs) ∨ (d = .lst xs ∧ SqL W.K H a vs)) ∧ RepL W J xs vs := fun {J} s r => by
    rcases hd with rfl | rfl
    · obtain ⟨a, vs, rfl, h1, h2⟩ := r.tup_inv
      exact ⟨a, vs, rfl, .inl ⟨rfl, sqT_keep s h1⟩, h2⟩
    · obtain ⟨a, vs, rfl, h1, h2⟩ := r.lst_inv
      exact ⟨a, vs, rfl, .inr ⟨rfl, s.seq h1⟩, h2⟩
  cases r with
  | val d' =>
    cases h
    obtain ⟨a, vs, h1, h2, h3⟩ := sq S.fh q
    exact ⟨a, vs, h1, h2, h3.n, fun j x w rv e1 e2 e3 => by cases e3; exact h3.r j x w e1 e2⟩
  | fresh d' =>
    cases h
    obtain ⟨a, vs, h1, h2, h3⟩ := sq S.fh q
    exact ⟨a, vs, h1, h2, h3.n, fun j x w rv e1 e2 e3 => by cases e3; exact h3.r j x w e1 e2⟩
  | bval d' =>
    cases h
    obtain ⟨a, vs, h1, h2, h3⟩ := sq S.gh q
    refine ⟨a, vs, h1, h2, h3.n, fun j x w rv e1 e2 e3 => ?_⟩
    have r := h3.r j x w e1 e2
    cases e3
    split
    · rename_i hi; exact Rep.imm S.tup (r.keep S.gh) hi
    · exact r
  | slot i =>
    have q : σ[i]? = some (some v) := q
    have rd := RVR.read (rv := .slot i) S q h
    have h : (sd[i]?.getD .no).d? = some d := h
    cases e : sd[i]? with
    | none => rw [e] at h; cases h
    | some s =>
      rw [e] at h
      cases s with
      | own d' =>
        cases h
        obtain ⟨a, h1, h2, h3, h4⟩ := S.slot i _ e
        rw [q] at h1; cases h1
        have hl : d = .lst xs := by
          rcases hd with rfl | rfl
          · exact h4.elim
          · rfl
        subst hl
        obtain ⟨vs, h5, h6⟩ := h4
        exact ⟨a, vs, rfl, .inr ⟨rfl, SqL.of h5⟩, h6.n, fun j x w rv e1 e2 e3 => by
          unfold RV.keep elemOf at e3
          dsimp only at e3
          rw [e] at e3
          cases e3
          exact h6.r j x w e1 e2⟩
      | io d' =>
        cases h
        obtain ⟨a, _, h1, h2, h4⟩ := S.slot i _ e
        rw [q] at h1; cases h1
        have hl : d = .lst xs := by
          rcases hd with rfl | rfl
          · exact h4.elim
          · rfl
        subst hl
        obtain ⟨vs, h5, h6⟩ := h4
        exact ⟨a, vs, rfl, .inr ⟨rfl, SqL.of h5⟩, h6.n, fun j x w rv e1 e2 e3 => by
          unfold RV.keep elemOf at e3
          dsimp only at e3
          rw [e] at e3
          cases e3
          exact h6.r j x w e1 e2⟩
      | sh d' =>
        obtain ⟨a, vs, h1, h2, h3⟩ := sq (Same.refl _) rd
        exact ⟨a, vs, h1, h2, h3.n, fun j x w rv e1 e2 e3 => by
          unfold RV.keep elemOf at e3
          dsimp only at e3
          rw [e] at e3
          cases e3⟩
      | bor d' =>
        obtain ⟨a, vs, h1, h2, h3⟩ := sq (Same.refl _) rd
        exact ⟨a, vs, h1, h2, h3.n, fun j x w rv e1 e2 e3 => by
          unfold RV.keep elemOf at e3
          dsimp only at e3
          rw [e] at e3
          cases e3⟩
      | no => cases h
def gIx (sd : List SV) (r : RV) : D → D → Option RV
  | .tup xs, .int i => (atI xs i).bind (elemOf sd r)
  | .lst xs, .int i => (atI xs i).bind (elemOf sd r)
  | .str z, .int i => if z.length ≤ sizeLine then (atI z.cps.toList i).map fun c => .val (.str ⟨#[c]⟩) else none
  | _, _ => none
def mIx (ma mb : M RV) : M RV := mBind ma fun ra => mBind mb fun rb => mBind (mRead ra.keep) fun x => mBind (mRead rb.keep) fun y => fun sd => mGet (gIx sd ra.keep x y) sd
theorem atI_both {α β : Type} {xs : List α} {ys : List β} {i : Int} {x : α} (hl : xs.length = ys.length) (h : atI xs i = some x) : ∃ (j : Nat) (y : β), xs[j]? = some x ∧ ys[j]? = some y ∧ atI ys i = some y := by
  unfold atI at h ⊢
  rw [← hl]
  cases e : ixN xs.length i with
  | none => rw [e] at h; cases h
  | some j =>
    rw [e] at h
    have h : xs[j]? = some x := h
    have hj : j < ys.length := by rw [← hl]; exact (List.getElem?_eq_some_iff.mp h).1
    exact ⟨j, ys[j], h, List.getElem?_eq_getElem hj, List.getElem?_eq_getElem hj⟩
theorem se_ix {ma mb : M RV} (ha : SE fx X Wx a ma) (hb : SE fx X Wx b mb) (hs : PlainIx b := by intro _ _; rfl) : SE fx X Wx (.Subscript a b pos) (mIx ma mb) := by
  obtain ⟨ta, pa, qa⟩ := ha.ex
  obtain ⟨tb, pb, qb⟩ := hb.ex
  refine ⟨_, pe_ix ix_seq pa pb hs, fun F G H sd σ Q S h => two qa qb S h fun F1 G1 H1 sd1 ra rb v u e1 e2 S1 r1 r2 h => ?_⟩
  obtain ⟨x, k1, h⟩ := h.read
  obtain ⟨y, k2, h⟩ := h.read
  have hy := r2.read S1 k2
  obtain ⟨rv, k3, hk⟩ := h.get
  clear h
  unfold gIx at k3
  split at k3
  · rename_i xs i
    obtain rfl := hy.int_inv
    obtain ⟨p, vs, rfl, h2, hl, h3⟩ := r1.elems S1 k1 (.inl rfl)
    cases e : atI xs i with
    | none => rw [e] at k3; cases k3
    | some d =>
      rw [e] at k3
      obtain ⟨j, w, j1, j2, j3⟩ := atI_both hl e
      have hT : SqT X.K H1 p vs := by
        rcases h2 with ⟨_, h2⟩ | ⟨z, _⟩
        · exact h2
        · cases z
      exact .inr (.inl ⟨p, vs, i, w, rfl, rfl, hT, j3, hk F1 G1 H1 w (Same.refl _) (Same.refl _) S1 (h3 j d w rv j1 j2 k3)⟩)
  · rename_i xs i
    obtain rfl := hy.int_inv
    obtain ⟨p, vs, rfl, h2, hl, h3⟩ := r1.elems S1 k1 (.inr rfl)
    cases e : atI xs i with
    | none => rw [e] at k3; cases k3
    | some d =>
      rw [e] at k3
      obtain ⟨j, w, j1, j2, j3⟩ := atI_both hl e
      have hT : SqL X.K H1 p vs := by
        rcases h2 with ⟨z, _⟩ | ⟨_, h2⟩
        · cases z
        · exact h2
      exact .inl ⟨p, vs, i, w, rfl, rfl, hT, j3, hk F1 G1 H1 w (Same.refl _) (Same.refl _) S1 (h3 j d w rv j1 j2 k3)⟩
  · split at k3
    · rename_i z i hz
      obtain rfl := hy.int_inv
      obtain rfl := (r1.read S1 k1).str_inv
      cases e : atI z.cps.toList i with
      | none => rw [e] at k3; cases k3
      | some d =>
        rw [e] at k3
        cases k3
        exact .inr (.inr ⟨z, i, d, rfl, rfl, hz, e, hk F1 G1 H1 _ (Same.refl _) (Same.refl _) S1 (.str _)⟩)
    · cases k3
  · cases k3

/-! ### slices -/
structure SO (fx : Fx) (X : Cx) (Wx : WX) (e : Option Expr) (m : M (Option Int)) : Prop where
  ex : ∃ t, PO X e t ∧ ∀ F G H sd σ Q, SR (wd X) fx F G H sd σ → Po (wd X) fx F G σ Wx (fun _ _ _ _ (r v : Option Int) => r = v) Q (m sd) → t σ H Q
theorem Po.bindV {α γ δ : Type} {W : Wd} {F G : Hp} {σ : St} {Rl : Hp → Hp → Hp → List SV → γ → δ → Prop} {Q : δ → Hp → Prop} {ma : M α} {k : α → M γ} {sd : List SV} {T : α → Hp → Prop} (h : Po W fx F G σ Wx Rl Q (mBind ma k sd))
    (ht : ∀ F' G' H' sd' c, Same F F' → Same G G' → SR W fx F' G' H' sd' σ → Po W fx F' G' σ Wx Rl Q (k c sd') → T c H') : Po W fx F G σ Wx (fun _ _ _ _ (r v : α) => r = v) T (ma sd) := by
  unfold mBind at h
  cases e : ma sd with
  | fail => rw [e] at h; exact h
  | exc x sd1 => rw [e] at h; exact h
  | ok r sd1 =>
    rw [e] at h
    intro F' G' H' b e1 e2 S q
    subst q
    exact ht F' G' H' sd1 r e1 e2 S (Po.mono e1 e2 h)
def mNoPart : M (Option Int) := mPure none
def D.int? : D → Option Int
  | .int i => some i
  | _ => none
def mPart (ma : M RV) : M (Option Int) := mBind ma fun r => mBind (mRead r.keep) fun d => mBind (mGet d.int?) fun i => mPure (some i)
theorem so_none : SO fx X Wx none mNoPart := ⟨_, po_none, fun F G H sd σ Q S h => h F G H _ (Same.refl _) (Same.refl _) S rfl⟩
theorem so_some {ma : M RV} (ha : SE fx X Wx e ma) : SO fx X Wx (some e) (mPart ma) := by
  obtain ⟨t, p, q⟩ := ha.ex
  refine ⟨_, po_some p, fun F G H sd σ Q S h => one q S h fun F1 G1 H1 sd1 ra v e1 e2 S1 r1 h => ?_⟩
  obtain ⟨d, k1, h⟩ := h.read
  obtain ⟨i, k2, h⟩ := h.getB
  have r := r1.read S1 k1
  cases d <;> simp [D.int?] at k2
  subst k2
  obtain rfl := r.int_inv
  exact ⟨_, rfl, h F1 G1 H1 _ (Same.refl _) (Same.refl _) S1 rfl⟩
def cutD {α : Type} (xs : List α) (lo hi : Option Int) : List α := (xs.drop (HT.sIx xs.length 0 lo)).take (HT.sIx xs.length xs.length hi - HT.sIx xs.length 0 lo)
theorem RepL.cut {W : Wd} {H : Hp} {ds : List D} {vs : List V} (r : RepL W H ds vs) (lo hi : Option Int) : RepL W H (cutD ds lo hi) (cutV vs lo hi) := by
  unfold cutD cutV
  rw [r.n]
  exact (r.drop _).take _
def gSl (x : D) (lo hi : Option Int) : Option RV := match x with
  | .tup xs => if D.imms xs then some (.val (.tup (cutD xs lo hi))) else none
  | .lst xs => if D.imms xs then some (.fresh (.lst (cutD xs lo hi))) else none
  | .str z => if z.length ≤ sizeLine then some (.val (.str (cutS z lo hi))) else none
  | _ => none
def mSl (ma : M RV) (ml mh : M (Option Int)) : M RV := mBind ma fun ra => mBind ml fun lo => mBind mh fun hi => mBind (mRead ra.keep) fun x => mGet (gSl x lo hi)
theorem cutD_whole {α : Type} {xs : List α} {lo hi : Option Int} (h : HT.sIx xs.length 0 lo = 0 ∧ HT.sIx xs.length xs.length hi = xs.length) : cutD xs lo hi = xs := by
  unfold cutD
  rw [h.1, h.2]
  simp
theorem imms_mono {ds : List D} (h : ∀ d ∈ ds, d.imm = true) : D.imms ds = true := by
  induction ds with
  | nil => rfl
  | cons x r ih => rw [D.imms, h x List.mem_cons_self, ih fun d hd => h d (List.mem_cons_of_mem _ hd)]; rfl
theorem imms_mem {ds : List D} (h : D.imms ds = true) : ∀ d ∈ ds, d.imm = true := fun d hd => by
  obtain ⟨i, hi⟩ := List.getElem?_of_mem hd
  exact D.imms_get h hi
theorem imms_cut {ds : List D} (h : D.imms ds = true) (lo hi : Option Int) : D.imms (cutD ds lo hi) = true :=
  imms_mono fun d hd => imms_mem h d (List.mem_of_mem_drop (List.mem_of_mem_take hd))
theorem se_slice {lo hi : Option Expr} {p2 : Pos} {ma : M RV} {ml mh : M (Option Int)} (ha : SE fx X Wx a ma) (hl : SO fx X Wx lo ml) (hh : SO fx X Wx hi mh) : SE fx X Wx (.Subscript a (.Slice lo hi none p2) pos) (mSl ma ml mh) := by
  obtain ⟨ta, pa, qa⟩ := ha.ex
  obtain ⟨tl, pl, ql⟩ := hl.ex
  obtain ⟨th, ph, qh⟩ := hh.ex
  refine ⟨_, pe_slice ((sl_str.or sl_tupA).or sl_list) pa pl ph, fun F G H sd σ Q S h => one qa S h fun F1 G1 H1 sd1 ra v e1 e2 S1 r1 h => ql F1 G1 H1 sd1 σ _ S1 (Po.bindV h fun F2 G2 H2 sd2 l e3 e4 S2 h => qh F2 G2 H2 sd2 σ _ S2 (Po.bindV h fun F3 G3 H3 sd3 u e5 e6 S3 h => ?_))⟩
  obtain ⟨x, k1, h⟩ := h.read
  obtain ⟨rv, k2, h⟩ := h.get
  have r := ((r1.mono (H' := H2) (sd' := sd2) e3 e4).mono (rv := ra) (H' := H3) (sd' := sd3) e5 e6).read S3 k1
  unfold gSl at k2
  split at k2
  · split at k2
    · rename_i xs hi'
      cases k2
      have ri := r.imm S3.tup (by rw [D.imm]; exact hi')
      obtain ⟨p, vs, rfl, h1, h2⟩ := r.tup_inv
      refine .inl (.inr ⟨p, vs, rfl, h1, fun hw => ?_, fun _ q hq => ?_⟩)
      · rw [← h2.n] at hw
        have ec := cutD_whole hw
        exact h F3 G3 H3 _ (Same.refl _) (Same.refl _) S3 (by rw [ec]; exact ri)
      · exact out_newSh S3 (fun F' G' H' w => h F' G' H' w) ((RepL.immF S3 hi' h2).cut l u) hq
    · cases k2
  · split at k2
    · rename_i xs hi'
      cases k2
      obtain ⟨p, vs, rfl, h1, h2⟩ := r.lst_inv
      exact .inr ⟨p, vs, rfl, h1, fun q hq => out_newLst S3 (fun F' G' H' w => h F' G' H' w) ((RepL.immF S3 hi' h2).cut l u) hq⟩
    · cases k2
  · split at k2
    · rename_i z hz
      cases k2
      obtain rfl := r.str_inv
      exact .inl (.inl ⟨z, rfl, hz, h F3 G3 H3 _ (Same.refl _) (Same.refl _) S3 (.str _)⟩)
    · cases k2
  · cases k2
end
end Av

/-! own lists changed; statements, targets, loops -/
namespace Av
open PySem L2
section
variable {fx : Fx} {X : Cx} {Wx : WX} {e a b c : Expr} {pos : Pos}

/-! ### an own object is changed -/
theorem SR.mutate {W : Wd} {F G H : Hp} {sd : List SV} {σ : St} {i : Nat} {s s' : SV} {p : Addr} {o : HO} {d' : D} (S : SR W fx F G H sd σ) (hi : sd[i]? = some s) (hp : σ[i]? = some (some (.ref p))) (hs : (∃ d, s = .own d ∧ s' = .own d') ∨ (∃ d, s = .io d ∧ s' = .io d'))
    (ho : OwnO W F (upd H p o) p d') : SR W fx F G (upd H p o) (sd.set i s') σ := by
  have q := S.slot i s hi
  have hil : i < sd.length := (List.getElem?_eq_some_iff.mp hi).1
  have base : G p = none ∧ (∃ u, H p = some u ∧ ∀ xs, ¬ Rd H p (.tup xs)) ∧ s.mine = true ∧ s'.mine = true := by
    rcases hs with ⟨d, rfl, rfl⟩ | ⟨d, rfl, rfl⟩
    · obtain ⟨a, h1, h2, h3, h4⟩ := q
      rw [hp] at h1; cases h1
      exact ⟨h2, h4.there, rfl, rfl⟩
    · obtain ⟨a, h0, h1, h2, h4⟩ := q
      rw [hp] at h1; cases h1
      exact ⟨h2, h4.there, rfl, rfl⟩
  obtain ⟨hG, ⟨u, hu, hnt⟩, hm, hmm⟩ := base
  have nt : ∀ xs, ¬ Rd (upd H p o) p (.tup xs) := fun xs r => by
    obtain ⟨o', h5, h6⟩ := ho.there
    exact h6 xs r
  have nh : ∀ b v, (b, v) ∈ fx.hold → b ≠ p := fun b v hm z => by subst z; exact S.free b v hm i s hi ‹s.mine = true› hp
  refine ⟨⟨S.ff, S.fn, S.gg, S.gn, S.fg, fun b v e => ?_, fun b e => ?_, fun b xs r => ?_, fun b v hm0 => by
      obtain ⟨h1, h2, h3⟩ := S.held b v hm0
      exact ⟨by rw [upd_ne (nh b v hm0)]; exact h1, h2, h3⟩⟩, by rw [List.length_set]; exact S.len, fun j t e => ?_, fun j k t t' b e1 e2 m1 m2 p1 p2 => ?_, fun b v hm0 j t e m => ?_⟩
  · rw [upd_ne (ne_of_none e hG)]; exact S.gh b v e
  · by_cases hb : b = p
    · subst hb; rw [upd_same] at e; cases e
    · rw [upd_ne hb] at e; exact S.dom b e
  · by_cases hb : b = p
    · subst hb; exact absurd r (nt xs)
    · rw [upd_ne hb]
      exact S.tup b xs (by
        rcases r with r | ⟨ob, r⟩
        · rw [upd_ne hb] at r; exact .inl r
        · rw [upd_ne hb] at r; exact .inr ⟨ob, r⟩)
  · rw [List.getElem?_set] at e
    by_cases hj : i = j
    · subst hj
      rw [if_pos rfl, if_pos hil] at e
      cases e
      rcases hs with ⟨d, rfl, rfl⟩ | ⟨d, rfl, rfl⟩
      · obtain ⟨a, h1, h2, h3, h4⟩ := q
        rw [hp] at h1; cases h1
        exact ⟨p, hp, hG, h3, ho⟩
      · obtain ⟨a, h0, h1, h2, h4⟩ := q
        rw [hp] at h1; cases h1
        exact ⟨p, h0, hp, hG, ho⟩
    · rw [if_neg hj] at e
      refine (S.slot j t e).keep (Same.refl _) (Same.refl _) fun b p1 m p2 _ => ⟨upd_ne fun z => ?_, p2⟩
      subst z
      exact hj (S.apart i j _ _ _ hi e hm m hp p1)
  · have cvt : ∀ {j : Nat} {t : SV}, (sd.set i s')[j]? = some t → t.mine = true → ∃ t0, sd[j]? = some t0 ∧ t0.mine = true := fun {j t} e m => by
      rw [List.getElem?_set] at e
      by_cases hj : i = j
      · subst hj; exact ⟨s, hi, hm⟩
      · rw [if_neg hj] at e; exact ⟨t, e, m⟩
    obtain ⟨t0, e1', m1'⟩ := cvt e1 m1
    obtain ⟨t1, e2', m2'⟩ := cvt e2 m2
    exact S.apart j k t0 t1 b e1' e2' m1' m2' p1 p2
  · rw [List.getElem?_set] at e
    by_cases hj : i = j
    · subst hj
      exact S.free b v hm0 i s hi hm
    · rw [if_neg hj] at e; exact S.free b v hm0 j t e m
def mOwn (i : Nat) : M D := fun sd => match sd[i]?.getD .no with
  | .own d => .ok d sd
  | .io d => .ok d sd
  | _ => .fail
def mPutOwn (i : Nat) (d : D) : M Unit := fun sd => match sd[i]?.getD .no with
  | .own _ => .ok () (sd.set i (.own d))
  | .io _ => .ok () (sd.set i (.io d))
  | _ => .fail
theorem Po.own {α β : Type} {W : Wd} {F G H : Hp} {σ : St} {Rl : Hp → Hp → Hp → List SV → α → β → Prop} {Q : β → Hp → Prop} {i : Nat} {k : D → M α} {sd : List SV} (S : SR W fx F G H sd σ) (h : Po W fx F G σ Wx Rl Q ((mBind (mOwn i) k) sd)) :
    ∃ d s p, sd[i]? = some s ∧ (s = .own d ∨ s = .io d) ∧ σ[i]? = some (some (.ref p)) ∧ OwnO W F H p d ∧ G p = none ∧ Po W fx F G σ Wx Rl Q (k d sd) := by
  unfold mBind mOwn at h
  cases e : sd[i]? with
  | none => rw [e] at h; exact h.elim
  | some s =>
    rw [e] at h
    have q := S.slot i s e
    cases s with
    | own d => obtain ⟨p, k1, k2, _, k4⟩ := q; exact ⟨d, _, p, rfl, .inl rfl, k1, k4, k2, h⟩
    | io d => obtain ⟨p, _, k1, k2, k4⟩ := q; exact ⟨d, _, p, rfl, .inr rfl, k1, k4, k2, h⟩
    | no => exact h.elim
    | sh d => exact h.elim
    | bor d => exact h.elim
/-- the new content is stored -/
theorem Po.putOwn {α β : Type} {W : Wd} {F G H : Hp} {σ : St} {Rl : Hp → Hp → Hp → List SV → α → β → Prop} {Q : β → Hp → Prop} {i : Nat} {k : Unit → M α} {sd : List SV} {s : SV} {d d' : D} {p : Addr} (S : SR W fx F G H sd σ) (e : sd[i]? = some s) (hs : s = .own d ∨ s = .io d) (hp : σ[i]? = some (some (.ref p)))
    (h : Po W fx F G σ Wx Rl Q ((mBind (mPutOwn i d') k) sd)) : ∃ sd', (∀ o, OwnO W F (upd H p o) p d' → SR W fx F G (upd H p o) sd' σ) ∧ Po W fx F G σ Wx Rl Q (k () sd') := by
  unfold mBind mPutOwn at h
  rw [e] at h
  rcases hs with rfl | rfl
  · exact ⟨_, fun o ow => S.mutate e hp (.inl ⟨_, rfl, rfl⟩) ow, h⟩
  · exact ⟨_, fun o ow => S.mutate e hp (.inr ⟨_, rfl, rfl⟩) ow, h⟩
/-- a method that changes the own object in a slot. kd: its kind; g: the new content and the answer -/
structure MutS (X : Cx) (id T : String) (kd : D → Bool) (g : D → List D → Option (D × D)) (r : V → List V → Hp → VK → Prop) : Prop where
  mt : MtR X id r
  ty : ∀ F H p x, OwnO (wd X) F H p x → kd x = true → tyV X.K T (.ref p) H
  go : ∀ F H p x ds vs x' d (Q : VK), Same F H → F p = none → OwnO (wd X) F H p x → RepL (wd X) F ds vs → g x ds = some (x', d) →
    (∀ o w, OwnO (wd X) F (upd H p o) p x' → Rep (wd X) F d w → Q w (upd H p o)) → r (.ref p) vs H Q
def mMut (kd : D → Bool) (g : D → List D → Option (D × D)) (i : Nat) (ma : M (List RV)) : M RV := mBind (mOwn i) fun x0 => if kd x0 then mBind ma fun rs => mBind (mShares rs) fun ds => mBind (mOwn i) fun x => mBind (mGet (g x ds)) fun y => mBind (mPutOwn i y.1) fun _ => mPure (.val y.2) else mFail
theorem se_mut {i : Nat} {x name : Str} {p1 apos : Pos} {id T : String} {es : List Expr} {kd : D → Bool} {g : D → List D → Option (D × D)} {r : V → List V → Hp → VK → Prop} {ma : M (List RV)} (pa : PlainAttrs T) (slot : Slot T name id) (hty : typeOf (.builtin id) = pure (.type "method_descriptor")) (hm : MutS X id T kd g r)
    (hN : X.N[i]? = some x) (hv : Vis X.env.scope x) (ha : SA fx X Wx (e :: es) ma)
    (hd : (x == ("__debug__" : Str)) = false := by decide) (hcd : (x == ("__classdict__" : Str)) = false := by decide)
    (hbase : attributeBase (.Name x p1) name X.env (eval (.Name x p1) X.env) = eval (.Name x p1) X.env := by rfl)
    (hfew : ((backTo pos (starEach (e :: es) X.env)).all (fun x => !x.1) && (backToKw pos (keywordEach [] X.env)).all (fun x => x.1.isSome)
      && decide ((e :: es).length + ([] : List Keyword).length + (if ([] : List Keyword).isEmpty then 0 else 1) < 30)) = true := by rfl)
    (hline : (apos.endLine == pos.line) = true := by rfl) (hs : starEach (e :: es) X.env = (false, eval e X.env) :: starEach es X.env := by rfl) (hplain : (backTo pos (starEach es X.env)).any (·.1) = false := by rfl) :
    SE fx X Wx (.Call (.Attribute (.Name x p1) name apos) (e :: es) [] pos) (mMut kd g i ma) := by
  obtain ⟨t, pt, q⟩ := ha.ex
  refine ⟨_, pe_bm pa slot hty hm.mt (pe_var hN hv hd hcd) pt hbase hfew hline hs hplain, fun F G H sd σ Q S h => ?_⟩
  obtain ⟨x0, s, p, e0, hs0, hp, ow, hG, h⟩ := h.own S
  split at h
  · rename_i hk
    refine ⟨.ref p, hp, hm.ty F H p x0 ow hk, args q S h fun F1 G1 H1 sd1 rs vs e1 e2 S1 r1 h => ?_⟩
    obtain ⟨ds, sd2, F2, G2, e3, e4, S2, p2, h⟩ := h.shares S1 r1
    obtain ⟨x1, s1, p', e5, hs1, hp', ow1, hG1, h⟩ := h.own S2
    rw [hp] at hp'; cases hp'
    obtain ⟨y, k2, h⟩ := h.getB
    obtain ⟨sd3, S3, h⟩ := h.putOwn S2 e5 hs1 hp
    exact hm.go F2 H1 p x1 ds vs y.1 y.2 Q S2.fh (S2.fg.free hG1) ow1 p2 k2 fun o w ow rw' => h F2 G2 _ w (Same.refl _) (Same.refl _) (S3 o ow) rw'
  · exact h.elim
theorem se_mut0 {i : Nat} {x name : Str} {p1 apos : Pos} {id T : String} {kd : D → Bool} {g : D → List D → Option (D × D)} {r : V → List V → Hp → VK → Prop} (pa : PlainAttrs T) (slot : Slot T name id) (hty : typeOf (.builtin id) = pure (.type "method_descriptor")) (hm : MutS X id T kd g r)
    (hN : X.N[i]? = some x) (hv : Vis X.env.scope x)
    (hd : (x == ("__debug__" : Str)) = false := by decide) (hcd : (x == ("__classdict__" : Str)) = false := by decide)
    (hbase : attributeBase (.Name x p1) name X.env (eval (.Name x p1) X.env) = eval (.Name x p1) X.env := by rfl)
    (hline : (apos.endLine == pos.line) = true := by rfl) :
    SE fx X Wx (.Call (.Attribute (.Name x p1) name apos) [] [] pos) (mMut kd g i mNil) := by
  refine ⟨_, pe_bm0 pa slot hty hm.mt (pe_var hN hv hd hcd) hbase hline, fun F G H sd σ Q S h => ?_⟩
  obtain ⟨x0, s, p, e0, hs0, hp, ow, hG, h⟩ := h.own S
  split at h
  · rename_i hk
    refine ⟨.ref p, hp, hm.ty F H p x0 ow hk, ?_⟩
    have h : Po (wd X) fx F G σ Wx (RlE (wd X) fx σ) Q ((mBind (mOwn i) fun x => mBind (mGet (g x [])) fun y => mBind (mPutOwn i y.1) fun _ => mPure (.val y.2)) sd) := h
    obtain ⟨x1, s1, p', e5, hs1, hp', ow1, hG1, h⟩ := h.own S
    rw [hp] at hp'; cases hp'
    obtain ⟨y, k2, h⟩ := h.getB
    obtain ⟨sd3, S3, h⟩ := h.putOwn S e5 hs1 hp
    exact hm.go F H p x1 [] [] y.1 y.2 Q S.fh (S.fg.free hG1) ow1 RepL.nil k2 fun o w ow rw' => h F G _ w (Same.refl _) (Same.refl _) (S3 o ow) rw'
  · exact h.elim
def D.isLst : D → Bool
  | .lst _ => true
  | _ => false
theorem ty_list {F H : Hp} {p : Addr} {x : D} (ow : OwnO (wd X) F H p x) (h : x.isLst = true) : tyV X.K "list" (.ref p) H := by
  cases x with
  | lst ds => obtain ⟨vs, h1, _⟩ := ow; exact .inl ⟨rfl, vs, SqL.of h1⟩
  | _ => cases h
def gAppend : D → List D → Option (D × D)
  | .lst xs, [d] => if xs.length < sizeLine then some (.lst (xs ++ [d]), .non) else none
  | _, _ => none
theorem RepL.single {W : Wd} {H : Hp} {d : D} {v : V} (r : Rep W H d v) : RepL W H [d] [v] := RepL.cons r RepL.nil
theorem ms_append : MutS X "list.append" "list" D.isLst gAppend rAppend := ⟨mt_append, fun F H p x ow h => ty_list ow h, fun F H p x ds vs x' d Q e hF ow r h k => by
  unfold gAppend at h
  split at h
  · split at h
    · rename_i hz
      cases h
      obtain ⟨us, h1, h2⟩ := ow
      obtain ⟨v, rfl, q⟩ := r.one_inv
      refine ⟨p, us, v, rfl, rfl, h1, by rw [← h2.n]; exact hz, k _ _ ⟨_, upd_same, h2.append (RepL.single q)⟩ .non⟩
    · cases h
  · cases h⟩
def gPop : D → List D → Option (D × D)
  | .lst xs, [] => xs.getLast?.map fun d => (.lst xs.dropLast, d)
  | _, _ => none
theorem ms_pop : MutS X "list.pop" "list" D.isLst gPop rPop := ⟨mt_pop, fun F H p x ow h => ty_list ow h, fun F H p x ds vs x' d Q e hF ow r h k => by
  unfold gPop at h
  split at h
  · rename_i xs
    cases e1 : xs.getLast? with
    | none => rw [e1] at h; cases h
    | some d0 =>
      rw [e1] at h
      cases h
      obtain ⟨us, h1, h2⟩ := ow
      obtain rfl := r.nil_inv
      rw [List.getLast?_eq_getElem?] at e1
      obtain ⟨w, h3, h4⟩ := h2.get e1
      rw [h2.n] at h3
      refine ⟨p, us, w, rfl, rfl, h1, h3, k _ _ ⟨_, upd_same, ?_⟩ h4⟩
      rw [List.dropLast_eq_take, List.dropLast_eq_take, h2.n]
      exact h2.take _
  · cases h⟩
end
end Av

/-! statements, targets, loops -/
namespace Av
open PySem L2
inductive RS where
  | nx (sd : List SV)
  | ret (r : RV) (sd : List SV)
  | bk (sd : List SV)
  | ct (sd : List SV)
  | exc (x : Xn) (sd : List SV)
  | fail
abbrev MS := List SV → RS
def PoS (W : Wd) (fx : Fx) (F G : Hp) (Wx : WX) (D : Ends) : RS → Prop
  | .nx sd => ∀ F' G' H' σ', Same F F' → Same G G' → SR W fx F' G' H' sd σ' → D.nx σ' H'
  | .ret r sd => ∀ F' G' H' σ' v, Same F F' → Same G G' → SR W fx F' G' H' sd σ' → RVR W fx F' G' H' sd σ' r v → D.rt v H'
  | .bk sd => ∀ F' G' H' σ', Same F F' → Same G G' → SR W fx F' G' H' sd σ' → D.bk σ' H'
  | .ct sd => ∀ F' G' H' σ', Same F F' → Same G G' → SR W fx F' G' H' sd σ' → D.ct σ' H'
  | .exc x sd => ∀ F' G' H' σ' c d, Same F F' → Same G G' → SR W fx F' G' H' sd σ' → ExR W F' H' x c d → Wx c d σ' H'
  | .fail => False
theorem PoS.mono {W : Wd} {fx : Fx} {F G F1 G1 : Hp} {Wx : WX} {D : Ends} {r : RS} (eF : Same F F1) (eG : Same G G1) (h : PoS W fx F G Wx D r) : PoS W fx F1 G1 Wx D r := by
  cases r with
  | nx sd => exact fun F' G' H' σ' e1 e2 S => h F' G' H' σ' (eF.trans e1) (eG.trans e2) S
  | ret r sd => exact fun F' G' H' σ' v e1 e2 S q => h F' G' H' σ' v (eF.trans e1) (eG.trans e2) S q
  | bk sd => exact fun F' G' H' σ' e1 e2 S => h F' G' H' σ' (eF.trans e1) (eG.trans e2) S
  | ct sd => exact fun F' G' H' σ' e1 e2 S => h F' G' H' σ' (eF.trans e1) (eG.trans e2) S
  | exc x sd => exact fun F' G' H' σ' c d e1 e2 S q => h F' G' H' σ' c d (eF.trans e1) (eG.trans e2) S q
  | fail => exact h
structure SS (fx : Fx) (X : Cx) (Wx : WX) (st : Stmt) (m : MS) : Prop where
  ex : ∃ t, PS X st t ∧ ∀ F G H sd σ D, SR (wd X) fx F G H sd σ → PoS (wd X) fx F G Wx D (m sd) → t D σ H
structure SSs (fx : Fx) (X : Cx) (Wx : WX) (st : List Stmt) (m : MS) : Prop where
  ex : ∃ t, PSs X st t ∧ ∀ F G H sd σ D, SR (wd X) fx F G H sd σ → PoS (wd X) fx F G Wx D (m sd) → t D σ H
/-- an expression, then a statement -/
def mThen {α : Type} (m : M α) (k : α → MS) : MS := fun sd => match m sd with
  | .ok a sd => k a sd
  | .exc x sd => .exc x sd
  | .fail => .fail
def mSeq (m k : MS) : MS := fun sd => match m sd with
  | .nx sd => k sd
  | r => r
def mSkip : MS := fun sd => .nx sd
section
variable {fx : Fx} {X : Cx} {Wx : WX} {e a b c : Expr} {pos : Pos} {st : Stmt} {sts : List Stmt} {m k : MS}
theorem oneS {ta : TE} {ma : M RV} (ha : ∀ F G H sd σ Q, SR (wd X) fx F G H sd σ → Po (wd X) fx F G σ Wx (RlE (wd X) fx σ) Q (ma sd) → ta σ H Q)
    {k : RV → MS} {T : V → Hp → Prop} {D : Ends} {F G H : Hp} {sd : List SV} {σ : St} (S : SR (wd X) fx F G H sd σ) (h : PoS (wd X) fx F G Wx D ((mThen ma fun ra => k ra) sd))
    (ht : ∀ F' G' H' sd' ra v, Same F F' → Same G G' → SR (wd X) fx F' G' H' sd' σ → RVR (wd X) fx F' G' H' sd' σ ra v → PoS (wd X) fx F' G' Wx D (k ra sd') → T v H') :
    ta σ H fun x H1 => T x H1 := by
  refine ha F G H sd σ _ S ?_
  unfold mThen at h
  cases ea : ma sd with
  | fail => rw [ea] at h; exact h
  | exc x sd1 => rw [ea] at h; exact fun F' G' H' c d e1 e2 S q => h F' G' H' σ c d e1 e2 S q
  | ok ra sd1 =>
    rw [ea] at h
    intro F1 G1 H1 v e1 e2 S1 r1
    exact ht F1 G1 H1 sd1 ra v e1 e2 S1 r1 (h.mono e1 e2)
theorem sss_nil : SSs fx X Wx [] mSkip := ⟨_, pss_nil, fun F G H sd σ D S h => h F G H σ (Same.refl _) (Same.refl _) S⟩
theorem sss_one (h : SS fx X Wx st m) : SSs fx X Wx [st] m := by
  obtain ⟨t, p, q⟩ := h.ex
  exact ⟨t, pss_one p, q⟩
theorem sss_cons (h1 : SS fx X Wx st m) (h2 : SSs fx X Wx sts k) : SSs fx X Wx (st :: sts) (mSeq m k) := by
  obtain ⟨t, p, q⟩ := h1.ex
  obtain ⟨u, p', q'⟩ := h2.ex
  refine ⟨_, pss_cons p p', fun F G H sd σ D S h => q F G H sd σ _ S ?_⟩
  unfold mSeq at h
  cases e : m sd with
  | nx sd1 =>
    rw [e] at h
    exact fun F' G' H' σ' e1 e2 S1 => q' F' G' H' sd1 σ' D S1 (PoS.mono e1 e2 h)
  | _ => rw [e] at h; exact h
def mExpr (ma : M RV) : MS := mThen ma fun _ => mSkip
theorem ss_expr {ma : M RV} (ha : SE fx X Wx e ma) (hs : swapsWith e none pos.line X.env = pure false := by rfl) : SS fx X Wx (.Expr e pos) (mExpr ma) := by
  obtain ⟨t, p, q⟩ := ha.ex
  exact ⟨_, ps_expr p hs, fun F G H sd σ D S h => oneS q S h fun F1 G1 H1 sd1 ra v e1 e2 S1 r1 h => h F1 G1 H1 σ (Same.refl _) (Same.refl _) S1⟩
def mRet (ma : M RV) : MS := mThen ma fun r => fun sd => .ret r sd
theorem ss_ret {ma : M RV} (ha : SE fx X Wx e ma) : SS fx X Wx (.Return (some e) pos) (mRet ma) := by
  obtain ⟨t, p, q⟩ := ha.ex
  exact ⟨_, ps_ret p, fun F G H sd σ D S h => oneS q S h fun F1 G1 H1 sd1 ra v e1 e2 S1 r1 h => h F1 G1 H1 σ v (Same.refl _) (Same.refl _) S1 r1⟩
def mRetN : MS := fun sd => .ret (.val .non) sd
theorem ss_retN : SS fx X Wx (.Return none pos) mRetN := ⟨_, ps_retN, fun F G H sd σ D S h => h F G H σ .non (Same.refl _) (Same.refl _) S .non⟩
theorem ss_pass : SS fx X Wx (.Pass pos) mSkip := ⟨_, ps_pass, fun F G H sd σ D S h => h F G H σ (Same.refl _) (Same.refl _) S⟩
def mBreak : MS := fun sd => .bk sd
def mCont : MS := fun sd => .ct sd
theorem ss_break : SS fx X Wx (.Break pos) mBreak := ⟨_, ps_break, fun F G H sd σ D S h => h F G H σ (Same.refl _) (Same.refl _) S⟩
theorem ss_cont : SS fx X Wx (.Continue pos) mCont := ⟨_, ps_continue, fun F G H sd σ D S h => h F G H σ (Same.refl _) (Same.refl _) S⟩
def mIfS (mc : M Bool) (m k : MS) : MS := mThen mc fun t => if t then m else k
theorem ss_if {mc : M Bool} {as bs : List Stmt} (hc : ST fx X Wx c mc) (ha : SSs fx X Wx as m) (hb : SSs fx X Wx bs k) : SS fx X Wx (.If c as bs pos) (mIfS mc m k) := by
  obtain ⟨t, p, q⟩ := hc.ex
  obtain ⟨u, p', q'⟩ := ha.ex
  obtain ⟨u2, p2, q2⟩ := hb.ex
  refine ⟨_, ps_if p p' p2, fun F G H sd σ D S h => q F G H sd σ _ S ?_⟩
  unfold mIfS mThen at h
  cases e : mc sd with
  | fail => rw [e] at h; exact h
  | exc x sd1 => rw [e] at h; exact fun F' G' H' c d e1 e2 S q => h F' G' H' σ c d e1 e2 S q
  | ok t sd1 =>
    rw [e] at h
    intro F1 G1 H1 b e1 e2 S1 qb
    subst qb
    have h := PoS.mono e1 e2 h
    cases t with
    | true => exact iteT (q' F1 G1 H1 sd1 σ D S1 h)
    | false => exact iteF (q2 F1 G1 H1 sd1 σ D S1 h)

/-! ### targets -/
/-- a slot is stored -/
def canPut : Option SV → Bool
  | none => false
  | some (.io _) => false
  | some _ => true
def putIn (i : Nat) (sd : List SV) : RV → Option (List SV)
  | .val d => some (sd.set i (.sh d))
  | .bval d => some (sd.set i (if d.imm then .sh d else .bor d))
  | .fresh d => some (sd.set i (.own d))
  | .slot j => match sd[j]?.getD .no with
    | .own d => some ((sd.set j (.sh d)).set i (.sh d))
    | .sh d => some (sd.set i (.sh d))
    | _ => none
def putSlot (i : Nat) (rv : RV) (sd : List SV) : Option (List SV) := if canPut sd[i]? then putIn i sd rv else none
theorem SR.setSlot {W : Wd} {F G H : Hp} {sd : List SV} {σ : St} {i : Nat} {v : V} {s : SV} (S : SR W fx F G H sd σ) (hi : i < sd.length) (hs : SlotR W fx F G H i (σ.set i (some v)) s)
    (ap : ∀ a, s.mine = true → v = .ref a → ∀ (j : Nat) (t : SV), sd[j]? = some t → t.mine = true → σ[j]? ≠ some (some (V.ref a))) (nh : ∀ a, s.mine = true → v = .ref a → ∀ o, (a, o) ∉ fx.hold) : SR W fx F G H (sd.set i s) (σ.set i (some v)) where
  toHR := S.toHR
  len := by rw [List.length_set, List.length_set]; exact S.len
  slot := fun j t e => by
    rw [List.getElem?_set] at e
    by_cases hj : i = j
    · subst hj
      rw [if_pos rfl, if_pos hi] at e
      cases e
      exact hs
    · rw [if_neg hj] at e
      have q := S.slot j t e
      have es : (σ.set i (some v))[j]? = σ[j]? := by rw [List.getElem?_set, if_neg hj]
      cases t with
      | no => exact q
      | sh d => obtain ⟨w, h1, h2⟩ := q; exact ⟨w, es.trans h1, h2⟩
      | bor d => obtain ⟨w, h1, h2⟩ := q; exact ⟨w, es.trans h1, h2⟩
      | own d => obtain ⟨w, h1, h2⟩ := q; exact ⟨w, es.trans h1, h2⟩
      | io d => obtain ⟨w, h0, h1, h2⟩ := q; exact ⟨w, h0, es.trans h1, h2⟩
  apart := fun j k t t' a e1 e2 m1 m2 p1 p2 => by
    have hs' : i < σ.length := by rw [← S.len]; exact hi
    rw [List.getElem?_set] at e1 e2 p1 p2
    by_cases hj : i = j
    · by_cases hk : i = k
      · rw [← hj, ← hk]
      · exfalso
        rw [if_pos hj, if_pos (by omega)] at e1
        rw [if_pos hj, if_pos (by omega)] at p1
        rw [if_neg hk] at e2 p2
        cases e1; cases p1
        exact ap a m1 rfl k t' e2 m2 p2
    · by_cases hk : i = k
      · exfalso
        rw [if_pos hk, if_pos (by omega)] at e2
        rw [if_pos hk, if_pos (by omega)] at p2
        rw [if_neg hj] at e1 p1
        cases e2; cases p2
        exact ap a m2 rfl j t e1 m1 p1
      · rw [if_neg hj] at e1 p1
        rw [if_neg hk] at e2 p2
        exact S.apart j k t t' a e1 e2 m1 m2 p1 p2
  free := fun a o hm j t e m p => by
    have hs' : i < σ.length := by rw [← S.len]; exact hi
    rw [List.getElem?_set] at e p
    by_cases hj : i = j
    · rw [if_pos hj, if_pos (by omega)] at e p
      cases e
      cases p
      exact nh a m rfl o hm
    · rw [if_neg hj] at e p
      exact S.free a o hm j t e m p
theorem put_ok {W : Wd} {F G H : Hp} {sd sd' : List SV} {σ : St} {i : Nat} {v : V} {rv : RV} (S : SR W fx F G H sd σ) (r : RVR W fx F G H sd σ rv v) (h : putSlot i rv sd = some sd') : ∃ F' G', Same F F' ∧ Same G G' ∧ SR W fx F' G' H sd' (σ.set i (some v)) := by
  unfold putSlot at h
  have hi : i < sd.length := by
    cases e : sd[i]? with
    | none => rw [e] at h; cases h
    | some s => exact (List.getElem?_eq_some_iff.mp e).1
  have hs' : i < σ.length := by rw [← S.len]; exact hi
  have at_ : (σ.set i (some v))[i]? = some (some v) := by rw [List.getElem?_set, if_pos rfl, if_pos hs']
  split at h
  case isFalse => cases h
  cases rv with
  | val d => cases h; exact ⟨F, G, Same.refl _, Same.refl _, S.setSlot hi ⟨v, at_, r⟩ (fun a m => by cases m) (fun a m => by cases m)⟩
  | bval d =>
    cases h
    refine ⟨F, G, Same.refl _, Same.refl _, S.setSlot hi ?_ (fun a m => by split at m <;> cases m) (fun a m => by split at m <;> cases m)⟩
    split
    · rename_i him
      exact ⟨v, at_, Rep.imm S.tup (Rep.keep S.gh r) him⟩
    · exact ⟨v, at_, r⟩
  | fresh d =>
    cases h
    obtain ⟨p, rfl, h1, h2, h3, h4, h5⟩ := r
    exact ⟨F, G, Same.refl _, Same.refl _, S.setSlot hi ⟨p, at_, h1, h2, h3⟩ (fun a _ ea j t e m => by cases ea; exact h4 j t e m) (fun a _ ea => by cases ea; exact h5)⟩
  | slot j =>
    have r : σ[j]? = some (some v) := r
    unfold putIn at h
    dsimp only at h
    cases e : sd[j]? with
    | none => rw [e] at h; cases h
    | some s =>
      rw [e] at h
      cases s with
      | own d =>
        cases h
        obtain ⟨F', G', w, e1, e2, S', e3, e4⟩ := S.frzSlot e
        rw [r] at e3; cases e3
        exact ⟨F', G', e1, e2, S'.setSlot (by rw [List.length_set]; exact hi) ⟨v, at_, e4⟩ (fun a m => by cases m) (fun a m => by cases m)⟩
      | sh d =>
        cases h
        obtain ⟨w, e3, e4⟩ := S.slot j _ e
        rw [r] at e3; cases e3
        exact ⟨F, G, Same.refl _, Same.refl _, S.setSlot hi ⟨v, at_, e4⟩ (fun a m => by cases m) (fun a m => by cases m)⟩
      | no => cases h
      | bor d => cases h
      | io d => cases h
abbrev MG := RV → List SV → Option (List SV)
/-- only these slots were stored -/
structure Off (sl : List Nat) (σ σ' : L2.St) : Prop where
  len : σ'.length = σ.length
  out : ∀ i, i ∉ sl → σ'[i]? = σ[i]?
/-- a target takes a result. It raises nothing. sl: the slots that it may store -/
structure SG (fx : Fx) (X : Cx) (tg : Expr) (sl : List Nat) (g : MG) : Prop where
  ex : ∃ t, PG X tg t ∧ ∀ F G H sd sd' σ rv v (Q : St → Hp → Prop), SR (wd X) fx F G H sd σ → RVR (wd X) fx F G H sd σ rv v → g rv sd = some sd' →
    (∀ F' G' H' σ', Same F F' → Same G G' → SR (wd X) fx F' G' H' sd' σ' → Off sl σ σ' → Q σ' H') → t v σ H Q
theorem sg_name {i : Nat} {x : Str} (hN : X.N.Nodup) (hi : X.N[i]? = some x) (hx : Loc X.env.scope x) (hf : X.fn x = true ∨ X.env.scope.names.lookup x = some .local := by first | exact .inl rfl | exact .inr rfl | assumption) : SG fx X (.Name x pos) [i] (putSlot i) :=
  ⟨_, pg_name hN hi hx hf, fun F G H sd sd' σ rv v Q S r h k => by
    obtain ⟨F', G', e1, e2, S'⟩ := put_ok S r h
    exact k F' G' H _ e1 e2 S' ⟨by rw [List.length_set], fun j hj => by rw [List.getElem?_set, if_neg (fun z => hj (by simp [z]))]⟩⟩
structure SGs (fx : Fx) (X : Cx) (ts : List Expr) (sl : List Nat) (g : List RV → List SV → Option (List SV)) : Prop where
  ex : ∃ t, PGs X ts t ∧ ∀ F G H sd sd' σ rvs vs (Q : St → Hp → Prop), SR (wd X) fx F G H sd σ → (rvs.length = vs.length ∧ ∀ (i : Nat) r v, rvs[i]? = some r → vs[i]? = some v → r.keep = r ∧ (∀ j, r ≠ .slot j) ∧ RVR (wd X) fx F G H sd σ r v) → g rvs sd = some sd' →
    (∀ F' G' H' σ', Same F F' → Same G G' → SR (wd X) fx F' G' H' sd' σ' → Off sl σ σ' → Q σ' H') → t vs σ H Q
def gsNil : List RV → List SV → Option (List SV)
  | [], sd => some sd
  | _, _ => none
def gsCons (g : MG) (gs : List RV → List SV → Option (List SV)) : List RV → List SV → Option (List SV)
  | r :: rs, sd => (g r sd).bind fun sd => gs rs sd
  | _, _ => none
theorem sgs_nil : SGs fx X [] [] gsNil := ⟨_, pgs_nil, fun F G H sd sd' σ rvs vs Q S r h k => by
  cases rvs with
  | nil =>
    cases h
    have : vs = [] := by have := r.1; cases vs; rfl; simp at this
    exact ⟨this, k F G H σ (Same.refl _) (Same.refl _) S ⟨rfl, fun _ _ => rfl⟩⟩
  | cons _ _ => cases h⟩
theorem sgs_cons {es : List Expr} {g : MG} {gs : List RV → List SV → Option (List SV)} {sl sls : List Nat} (h1 : SG fx X e sl g) (h2 : SGs fx X es sls gs)
    (hs : (assignEach (e :: es) X.env).map (·.2) = assign e X.env :: (assignEach es X.env).map (·.2) := by rfl) : SGs fx X (e :: es) (sl ++ sls) (gsCons g gs) := by
  obtain ⟨t, p, q⟩ := h1.ex
  obtain ⟨u, p', q'⟩ := h2.ex
  refine ⟨_, pgs_cons p p' hs, fun F G H sd sd' σ rvs vs Q S r h k => ?_⟩
  cases rvs with
  | nil => cases h
  | cons r0 rs =>
    cases vs with
    | nil => have := r.1; simp at this
    | cons v0 vs =>
      have h : (g r0 sd).bind (fun sd => gs rs sd) = some sd' := h
      cases eg : g r0 sd with
      | none => rw [eg] at h; cases h
      | some sd1 =>
        rw [eg] at h
        obtain ⟨a1, a2, a3⟩ := r.2 0 r0 v0 rfl rfl
        refine ⟨v0, vs, rfl, q F G H sd sd1 σ r0 v0 _ S a3 eg fun F1 G1 H1 σ1 e1 e2 S1 w1 => ?_⟩
        refine q' F1 G1 H1 sd1 sd' σ1 rs vs Q S1 ⟨by have := r.1; simpa using this, fun i r' v' h1 h2 => ?_⟩ h fun F2 G2 H2 σ2 e3 e4 S2 w2 => k F2 G2 H2 σ2 (e1.trans e3) (e2.trans e4) S2 ⟨w2.len.trans w1.len, fun i hi => by
          rw [List.mem_append] at hi
          rw [w2.out i (fun z => hi (.inr z)), w1.out i (fun z => hi (.inl z))]⟩
        obtain ⟨b1, b2, b3⟩ := r.2 (i + 1) r' v' (by simpa using h1) (by simpa using h2)
        refine ⟨b1, b2, ?_⟩
        cases r' with
        | val d => exact Rep.keep e1 b3
        | bval d => exact Rep.keep e2 b3
        | fresh d => exact absurd b1 (by simp [RV.keep])
        | slot j => exact absurd rfl (b2 j)
/-- the items of a tuple, as results -/
def itemsOf (rv : RV) : Option (List RV) := match rv with
  | .val (.tup ds) => some (ds.map .val)
  | .fresh (.tup ds) => some (ds.map .val)
  | .bval (.tup ds) => some (ds.map fun d => if d.imm then .val d else .bval d)
  | _ => none
def gTupT (n : Nat) (gs : List RV → List SV → Option (List SV)) : MG := fun rv sd => (itemsOf rv).bind fun rs => if rs.length = n then gs rs sd else none
theorem items_ok {W : Wd} {F G H : Hp} {sd : List SV} {σ : St} {rv : RV} {v : V} {rs : List RV} (S : SR W fx F G H sd σ) (r : RVR W fx F G H sd σ rv v) (h : itemsOf rv = some rs) :
    ∃ a vs, v = .ref a ∧ SqT W.K H a vs ∧ rs.length = vs.length ∧ ∀ (i : Nat) r v, rs[i]? = some r → vs[i]? = some v → r.keep = r ∧ (∀ j, r ≠ .slot j) ∧ RVR W fx F G H sd σ r v := by
  unfold itemsOf at h
  split at h
  · rename_i ds
    cases h
    obtain ⟨a, vs, rfl, h1, h2⟩ := Rep.tup_inv r
    refine ⟨a, vs, rfl, sqT_keep S.fh h1, by simp [h2.n], fun i r v e1 e2 => ?_⟩
    rw [List.getElem?_map] at e1
    cases ed : ds[i]? with
    | none => rw [ed] at e1; cases e1
    | some d =>
      rw [ed] at e1; cases e1
      exact ⟨rfl, fun j z => by (cases z), h2.r i d v ed e2⟩
  · rename_i ds
    obtain ⟨p, _, _, _, z, _⟩ := r
    exact z.elim
  · rename_i ds
    cases h
    obtain ⟨a, vs, rfl, h1, h2⟩ := Rep.tup_inv r
    refine ⟨a, vs, rfl, sqT_keep S.gh h1, by simp [h2.n], fun i r v e1 e2 => ?_⟩
    rw [List.getElem?_map] at e1
    cases ed : ds[i]? with
    | none => rw [ed] at e1; cases e1
    | some d =>
      rw [ed] at e1; cases e1
      have q := h2.r i d v ed e2
      show (if d.imm then RV.val d else .bval d).keep = (if d.imm then .val d else .bval d) ∧ (∀ j, (if d.imm then RV.val d else .bval d) ≠ .slot j) ∧ RVR W fx F G H sd σ (if d.imm then .val d else .bval d) v
      split
      · rename_i hi; exact ⟨rfl, fun j z => by (cases z), Rep.imm S.tup (q.keep S.gh) hi⟩
      · exact ⟨rfl, fun j z => by (cases z), q⟩
  · cases h
theorem sg_tup {es : List Expr} {kk n : Nat} {sl : List Nat} {gs : List RV → List SV → Option (List SV)} (hc : X.calm = true) (h : SGs fx X es sl gs)
    (hn : (assignEach es X.env).length = n := by rfl) (hst : (assignEach es X.env).findIdx? (·.1) = none := by rfl) : SG fx X (.Tuple es kk pos) sl (gTupT n gs) := by
  obtain ⟨t, p, q⟩ := h.ex
  refine ⟨_, pg_tup hc p hn hst, fun F G H sd sd' σ rv v Q S r h k => ?_⟩
  unfold gTupT at h
  cases ei : itemsOf rv with
  | none => rw [ei] at h; cases h
  | some rs =>
    rw [ei] at h
    have h : (if rs.length = n then gs rs sd else none) = some sd' := h
    split at h
    · rename_i hl
      obtain ⟨a, vs, rfl, h1, h2, h3⟩ := items_ok S r ei
      exact ⟨a, vs, rfl, h1, by rw [← h2]; exact hl, q F G H sd sd' σ rs vs Q S ⟨h2, h3⟩ h k⟩
    · cases h
/-- target = value -/
def mAsg (g : MG) (ma : M RV) : MS := mThen ma fun r => fun sd => match g r sd with
  | some sd => .nx sd
  | none => .fail
theorem ss_asg {tg : Expr} {sl : List Nat} {g : MG} {ma : M RV} (ha : SE fx X Wx e ma) (hg : SG fx X tg sl g) (hs : swapsWithSole [tg] e pos.line X.env = pure false := by rfl) (hw : swappedStores [tg] e X.env = pure none := by rfl)
    (h1 : (assignEach [tg] X.env).map (·.2) = [assign tg X.env] := by rfl) : SS fx X Wx (.Assign [tg] e pos) (mAsg g ma) := by
  obtain ⟨t, p, q⟩ := ha.ex
  obtain ⟨u, p', q'⟩ := hg.ex
  refine ⟨_, ps_asg p p' hs hw h1, fun F G H sd σ D S h => oneS q S h fun F1 G1 H1 sd1 ra v e1 e2 S1 r1 h => ?_⟩
  cases eg : g ra sd1 with
  | none => rw [eg] at h; exact h.elim
  | some sd2 =>
    rw [eg] at h
    exact q' F1 G1 H1 sd1 sd2 σ ra v _ S1 r1 eg fun F2 G2 H2 σ2 e3 e4 S2 _ => h F2 G2 H2 σ2 e3 e4 S2
end
end Av

/-! what is walked; for, while; x[i] = e -/
namespace Av
open PySem L2
/-- J gives the items, as long as the shared part stands -/
def Walks (W : Wd) (F G : Hp) (J : It) (items : List RV) : Prop := ∀ (fx : Fx) (i : Nat) F1 G1 H1 sd1 σ1, Same F F1 → Same G G1 → SR W fx F1 G1 H1 sd1 σ1 →
  (i = items.length → J.stop i H1) ∧ ∀ r, items[i]? = some r → J.go i H1 ∧ ∀ x H2, J.yld i H1 x H2 → ∃ F2 G2, Same F1 F2 ∧ Same G1 G2 ∧ SR W fx F2 G2 H2 sd1 σ1 ∧ RVR W fx F2 G2 H2 sd1 σ1 r x
def PoI (W : Wd) (fx : Fx) (F G : Hp) (σ : St) (Wx : WX) (Rj : It → Hp → Prop) : R (List RV) → Prop
  | .ok a sd => ∀ F' G' H' J, Same F F' → Same G G' → SR W fx F' G' H' sd σ → Walks W F' G' J a → Rj J H'
  | .exc x sd => ∀ F' G' H' c d, Same F F' → Same G G' → SR W fx F' G' H' sd σ → ExR W F' H' x c d → Wx c d σ H'
  | .fail => False
theorem PoI.mono {W : Wd} {fx : Fx} {F G F1 G1 : Hp} {σ : St} {Wx : WX} {Rj : It → Hp → Prop} {r : R (List RV)} (eF : Same F F1) (eG : Same G G1) (h : PoI W fx F G σ Wx Rj r) : PoI W fx F1 G1 σ Wx Rj r := by
  cases r with
  | ok a sd => exact fun F' G' H' b e1 e2 S q => h F' G' H' b (eF.trans e1) (eG.trans e2) S q
  | exc x sd => exact fun F' G' H' c d e1 e2 S q => h F' G' H' c d (eF.trans e1) (eG.trans e2) S q
  | fail => exact h
structure SI (fx : Fx) (X : Cx) (Wx : WX) (tg iter : Expr) (m : M (List RV)) : Prop where
  ex : ∃ wi, PI X tg iter wi ∧ ∀ F G H sd σ Rj, SR (wd X) fx F G H sd σ → PoI (wd X) fx F G σ Wx Rj (m sd) → wi σ H Rj
section
variable {fx : Fx} {X : Cx} {Wx : WX} {e a b c tg : Expr} {pos : Pos} {st : Stmt} {sts : List Stmt} {m k : MS}
theorem oneI {ta : TE} {ma : M RV} (ha : ∀ F G H sd σ Q, SR (wd X) fx F G H sd σ → Po (wd X) fx F G σ Wx (RlE (wd X) fx σ) Q (ma sd) → ta σ H Q)
    {k : RV → M (List RV)} {T : V → Hp → Prop} {Rj : It → Hp → Prop} {F G H : Hp} {sd : List SV} {σ : St} (S : SR (wd X) fx F G H sd σ) (h : PoI (wd X) fx F G σ Wx Rj ((mBind ma fun ra => k ra) sd))
    (ht : ∀ F' G' H' sd' ra v, Same F F' → Same G G' → SR (wd X) fx F' G' H' sd' σ → RVR (wd X) fx F' G' H' sd' σ ra.keep v → PoI (wd X) fx F' G' σ Wx Rj (k ra sd') → T v H') :
    ta σ H fun x H1 => T x H1 := by
  refine ha F G H sd σ _ S ?_
  unfold mBind at h
  cases ea : ma sd with
  | fail => rw [ea] at h; exact h
  | exc x sd1 => rw [ea] at h; exact h
  | ok ra sd1 =>
    rw [ea] at h
    intro F1 G1 H1 v e1 e2 S1 r1
    obtain ⟨F2, G2, e3, e4, S2, r2⟩ := r1.keep S1
    exact ht F2 G2 H1 sd1 ra v (e1.trans e3) (e2.trans e4) S2 r2 (h.mono (e1.trans e3) (e2.trans e4))
theorem argsI {ta : TA} {ma : M (List RV)} (ha : ∀ F G H sd σ Q, SR (wd X) fx F G H sd σ → Po (wd X) fx F G σ Wx (fun F G H sd rs vs => RVRs (wd X) fx F G H sd σ rs vs) Q (ma sd) → ta σ H Q)
    {k : List RV → M (List RV)} {T : List V → Hp → Prop} {Rj : It → Hp → Prop} {F G H : Hp} {sd : List SV} {σ : St} (S : SR (wd X) fx F G H sd σ) (h : PoI (wd X) fx F G σ Wx Rj ((mBind ma fun ra => k ra) sd))
    (ht : ∀ F' G' H' sd' ra vs, Same F F' → Same G G' → SR (wd X) fx F' G' H' sd' σ → RVRs (wd X) fx F' G' H' sd' σ ra vs → PoI (wd X) fx F' G' σ Wx Rj (k ra sd') → T vs H') :
    ta σ H fun x H1 => T x H1 := by
  refine ha F G H sd σ _ S ?_
  unfold mBind at h
  cases ea : ma sd with
  | fail => rw [ea] at h; exact h
  | exc x sd1 => rw [ea] at h; exact h
  | ok ra sd1 =>
    rw [ea] at h
    intro F1 G1 H1 v e1 e2 S1 r1
    exact ht F1 G1 H1 sd1 ra v e1 e2 S1 r1 (h.mono e1 e2)
theorem PoI.reads {W : Wd} {F G H : Hp} {σ : St} {Rj : It → Hp → Prop} {rs : List RV} {vs : List V} {k : List D → M (List RV)} {sd : List SV} (S : SR W fx F G H sd σ) (q : RVRs W fx F G H sd σ rs vs) (h : PoI W fx F G σ Wx Rj ((mBind (mReads rs) k) sd)) :
    ∃ ds, RepL W H ds vs ∧ PoI W fx F G σ Wx Rj (k ds sd) := by
  unfold mBind at h
  cases e : mReads rs sd with
  | fail => rw [e] at h; exact h.elim
  | exc x s =>
    exfalso
    have h2 : Po W fx F G σ (fun _ _ _ _ => True) (RlE W fx σ) (fun _ _ => False) ((mBind (mReads rs) fun _ => (mFail : M RV)) sd) := by
      unfold mBind
      rw [e]
      exact fun _ _ _ _ _ _ _ _ _ => True.intro
    obtain ⟨_, _, z⟩ := Po.reads S q h2
    exact z
  | ok ds sd' =>
    rw [e] at h
    obtain ⟨rfl, p⟩ := reads_ok S q e
    exact ⟨ds, p, h⟩
theorem PoI.get {α : Type} {W : Wd} {F G : Hp} {σ : St} {Rj : It → Hp → Prop} {o : Option α} {k : α → M (List RV)} {sd : List SV} (h : PoI W fx F G σ Wx Rj ((mBind (mGet o) k) sd)) : ∃ d, o = some d ∧ PoI W fx F G σ Wx Rj (k d sd) := by
  unfold mBind mGet at h
  cases o with
  | none => exact h.elim
  | some d => exact ⟨d, rfl, h⟩
/-- the items of a list or tuple that is walked: an own list becomes shared -/
def seqItems : RV → Option (List RV)
  | .val (.tup ds) => some (ds.map .val)
  | .val (.lst ds) => some (ds.map .val)
  | .bval (.tup ds) => some (ds.map fun d => if d.imm then .val d else .bval d)
  | .bval (.lst ds) => some (ds.map fun d => if d.imm then .val d else .bval d)
  | _ => none
/-- an own object in a slot, as a shared value from now on -/
def mSettle : RV → M RV
  | .slot i => fun sd => match sd[i]?.getD .no with
    | .own d => .ok (.val d) (sd.set i (.sh d))
    | .sh d => .ok (.val d) sd
    | .bor d => .ok (.bval d) sd
    | _ => .fail
  | .fresh d => mPure (.val d)
  | r => mPure r
theorem settle_ok {W : Wd} {F G H : Hp} {σ : St} {sd sd' : List SV} {r r' : RV} {v : V} (S : SR W fx F G H sd σ) (q : RVR W fx F G H sd σ r.keep v) (h : mSettle r sd = .ok r' sd') : ∃ F' G', Same F F' ∧ Same G G' ∧ SR W fx F' G' H sd' σ ∧ RVR W fx F' G' H sd' σ r' v ∧ r'.keep = r' := by
  cases r with
  | val d' => cases h; exact ⟨F, G, Same.refl _, Same.refl _, S, q, rfl⟩
  | fresh d' => cases h; exact ⟨F, G, Same.refl _, Same.refl _, S, q, rfl⟩
  | bval d' => cases h; exact ⟨F, G, Same.refl _, Same.refl _, S, q, rfl⟩
  | slot i =>
    unfold mSettle at h
    dsimp only at h
    have q : σ[i]? = some (some v) := q
    cases e : sd[i]? with
    | none => rw [e] at h; cases h
    | some s =>
      rw [e] at h
      cases s with
      | own d' =>
        cases h
        obtain ⟨F', G', w, e1, e2, S', e3, e4⟩ := S.frzSlot e
        rw [q] at e3; cases e3
        exact ⟨F', G', e1, e2, S', e4, rfl⟩
      | sh d' =>
        cases h
        obtain ⟨w, e3, e4⟩ := S.slot i _ e
        rw [q] at e3; cases e3
        exact ⟨F, G, Same.refl _, Same.refl _, S, e4, rfl⟩
      | bor d' =>
        cases h
        obtain ⟨w, e3, e4⟩ := S.slot i _ e
        rw [q] at e3; cases e3
        exact ⟨F, G, Same.refl _, Same.refl _, S, e4, rfl⟩
      | no => cases h
      | io d => cases h
theorem PoI.settle {W : Wd} {F G H : Hp} {σ : St} {Rj : It → Hp → Prop} {r : RV} {v : V} {k : RV → M (List RV)} {sd : List SV} (S : SR W fx F G H sd σ) (q : RVR W fx F G H sd σ r.keep v) (h : PoI W fx F G σ Wx Rj ((mBind (mSettle r) k) sd)) :
    ∃ r' sd' F' G', Same F F' ∧ Same G G' ∧ SR W fx F' G' H sd' σ ∧ RVR W fx F' G' H sd' σ r' v ∧ PoI W fx F' G' σ Wx Rj (k r' sd') := by
  unfold mBind at h
  cases e : mSettle r sd with
  | fail => rw [e] at h; exact h.elim
  | exc x s =>
    exfalso
    unfold mSettle at e
    split at e <;> first | (cases e; done) | (split at e <;> cases e)
  | ok r' sd' =>
    rw [e] at h
    obtain ⟨F', G', e1, e2, S', p, _⟩ := settle_ok S q e
    exact ⟨r', sd', F', G', e1, e2, S', p, h.mono e1 e2⟩
def mSeqIt (ma : M RV) : M (List RV) := mBind ma fun r => mBind (mSettle r) fun r => mGet (seqItems r)
theorem PI.or {w w' : TI} (h : PI X tg e w) (h' : PI X tg e w') : PI X tg e (fun σ H Rj => w σ H Rj ∨ w' σ H Rj) := ⟨fun pins s σ H Rj I q => by
  rcases q with q | q
  · exact h.run pins s σ H Rj I q
  · exact h'.run pins s σ H Rj I q⟩
/-- over a list or a tuple -/
def iSeq (K : PySem.W.Frag) (tl : TE) : TI := fun σ H R => tl σ H fun x H1 => ∃ a, x = .ref a ∧ ((∃ xs, SqL K H1 a xs) ∧ R (Itl K a) H1 ∨ (∃ xs, SqT K H1 a xs) ∧ R (Itt K a) H1)
theorem pi_seq {l : Expr} {tl : TE} (hl : PE X l tl) : PI X tg l (iSeq X.K tl) := by
  refine ⟨fun pins s σ H R I h => ?_⟩
  refine thn (hl.run pins s σ H _ I h) fun v s1 ⟨x, H1, I1, r1, q1⟩ => ?_
  obtain ⟨a, e, q1⟩ := q1
  subst e
  cases r1
  have fin : ∀ b, b ∈ [s1.heap.objs.size] → FpOk X pins H1 b := fun b hb => by
    have e : b = s1.heap.objs.size := by simpa using hb
    subst e
    exact I1.fpOk (Nat.le_refl _) (I1.hok.fresh (Nat.le_refl _))
  rcases q1 with ⟨⟨xs, hq⟩, q⟩ | ⟨⟨xs, hq⟩, q⟩
  · obtain ⟨its, rv, p, hz⟩ := I1.list hq
    refine wpAny_pyIter_list p.isList ?_
    exact ⟨s1.heap.objs.size, [s1.heap.objs.size], _, _, H1, rfl, I1.kept (t' := s1.toks) fun b o e => Heap.get?_push_of_some _ e, turn_list a _, ⟨_, Heap.get?_push_size _ rfl, rfl, rfl⟩, fin, q⟩
  · obtain ⟨its, rv, p, hz⟩ := I1.tuple hq
    refine wpAny_pyIter_tuple (show s1.heap.IsTuple a its.toArray from p) ?_
    exact ⟨s1.heap.objs.size, [s1.heap.objs.size], _, _, H1, rfl, I1.kept (t' := s1.toks) fun b o e => Heap.get?_push_of_some _ e, turn_tuple a _, ⟨_, Heap.get?_push_size _ rfl, rfl, rfl⟩, fin, q⟩
/-- what a list or tuple that stands gives -/
theorem seq_items {W : Wd} {F G H : Hp} {sd : List SV} {σ : St} {r : RV} {v : V} {items : List RV} (S : SR W fx F G H sd σ) (q : RVR W fx F G H sd σ r v) (h : seqItems r = some items) :
    ∃ a vs, v = .ref a ∧ (SqL W.K G a vs ∨ SqT W.K G a vs) ∧ items.length = vs.length ∧ ∀ (fx : Fx) (i : Nat) r x F' G' H' sd' σ', items[i]? = some r → vs[i]? = some x → Same F F' → Same G G' → SR W fx F' G' H' sd' σ' → RVR W fx F' G' H' sd' σ' r x := by
  have val : ∀ {ds : List D} {vs : List V}, RepL W F ds vs → (ds.map RV.val).length = vs.length ∧ ∀ (fx : Fx) (i : Nat) r x F' G' H' sd' σ', (ds.map RV.val)[i]? = some r → vs[i]? = some x → Same F F' → Same G G' → SR W fx F' G' H' sd' σ' → RVR W fx F' G' H' sd' σ' r x := fun {ds vs} rl =>
    ⟨by simp [rl.n], fun fx i r x F' G' H' sd' σ' e1 e2 e3 e4 S' => by
      rw [List.getElem?_map] at e1
      cases ed : ds[i]? with
      | none => rw [ed] at e1; cases e1
      | some d => rw [ed] at e1; cases e1; exact Rep.keep e3 (rl.r i d x ed e2)⟩
  have bval : ∀ {ds : List D} {vs : List V}, RepL W G ds vs → (ds.map fun d => if d.imm then RV.val d else .bval d).length = vs.length ∧ ∀ (fx : Fx) (i : Nat) r x F' G' H' sd' σ', (ds.map fun d => if d.imm then RV.val d else .bval d)[i]? = some r → vs[i]? = some x → Same F F' → Same G G' → SR W fx F' G' H' sd' σ' → RVR W fx F' G' H' sd' σ' r x := fun {ds vs} rl =>
    ⟨by simp [rl.n], fun fx i r x F' G' H' sd' σ' e1 e2 e3 e4 S' => by
      rw [List.getElem?_map] at e1
      cases ed : ds[i]? with
      | none => rw [ed] at e1; cases e1
      | some d =>
        rw [ed] at e1; cases e1
        have q := (rl.r i d x ed e2).keep e4
        show RVR W fx F' G' H' sd' σ' (if d.imm then .val d else .bval d) x
        split
        · rename_i hi; exact Rep.imm S'.tup (q.keep S'.gh) hi
        · exact q⟩
  unfold seqItems at h
  split at h
  · cases h
    obtain ⟨a, vs, rfl, h1, h2⟩ := Rep.tup_inv q
    exact ⟨a, vs, rfl, .inr (sqT_keep S.fg h1), val h2⟩
  · cases h
    obtain ⟨a, vs, rfl, h1, h2⟩ := Rep.lst_inv q
    exact ⟨a, vs, rfl, .inl (S.fg.seq h1), val h2⟩
  · cases h
    obtain ⟨a, vs, rfl, h1, h2⟩ := Rep.tup_inv q
    exact ⟨a, vs, rfl, .inr h1, bval h2⟩
  · cases h
    obtain ⟨a, vs, rfl, h1, h2⟩ := Rep.lst_inv q
    exact ⟨a, vs, rfl, .inl h1, bval h2⟩
  · cases h
theorem si_seq {ma : M RV} (ha : SE fx X Wx e ma) : SI fx X Wx tg e (mSeqIt ma) := by
  obtain ⟨t, p, q⟩ := ha.ex
  refine ⟨_, pi_seq p, fun F G H sd σ Rj S h => oneI q S h fun F1 G1 H1 sd1 ra v e1 e2 S1 r1 h => ?_⟩
  obtain ⟨r', sd2, F2, G2, e3, e4, S2, p2, h⟩ := h.settle S1 r1
  unfold mGet at h
  cases ei : seqItems r' with
  | none => rw [ei] at h; exact h.elim
  | some items =>
    rw [ei] at h
    obtain ⟨a, vs, rfl, h1, hn, h2⟩ := seq_items S2 p2 ei
    refine ⟨a, rfl, ?_⟩
    rcases h1 with h1 | h1
    · refine .inl ⟨⟨vs, S2.gh.seq h1⟩, h F2 G2 H1 _ (Same.refl _) (Same.refl _) S2 fun fx3 i F3 G3 H3 sd3 σ3 i1 i2 S3 => ?_⟩
      have hq := S3.gh.seq (i2.seq h1)
      refine ⟨fun e => ⟨vs, hq, by omega⟩, fun r er => ?_⟩
      have hi : i < vs.length := by rw [← hn]; exact (List.getElem?_eq_some_iff.mp er).1
      refine ⟨⟨vs, vs[i], hq, List.getElem?_eq_getElem hi⟩, fun x H4 y => ?_⟩
      obtain ⟨rfl, y⟩ := y
      exact ⟨F3, G3, Same.refl _, Same.refl _, S3, h2 fx3 i r x F3 G3 _ sd3 σ3 er (y vs hq) i1 i2 S3⟩
    · refine .inr ⟨⟨vs, sqT_keep S2.gh h1⟩, h F2 G2 H1 _ (Same.refl _) (Same.refl _) S2 fun fx3 i F3 G3 H3 sd3 σ3 i1 i2 S3 => ?_⟩
      have hq := sqT_keep S3.gh (sqT_keep i2 h1)
      refine ⟨fun e => ⟨vs, hq, by omega⟩, fun r er => ?_⟩
      have hi : i < vs.length := by rw [← hn]; exact (List.getElem?_eq_some_iff.mp er).1
      refine ⟨⟨vs, vs[i], hq, List.getElem?_eq_getElem hi⟩, fun x H4 y => ?_⟩
      obtain ⟨rfl, y⟩ := y
      exact ⟨F3, G3, Same.refl _, Same.refl _, S3, h2 fx3 i r x F3 G3 _ sd3 σ3 er (y vs hq) i1 i2 S3⟩
/-- ranges -/
def rangeItems (lo : Int) (n : Nat) : List RV := (List.range n).map fun (i : Nat) => RV.val (D.int (lo + (i : Int)))
theorem range_walks {W : Wd} {F G : Hp} (lo : Int) (n : Nat) : Walks W F G (Itr lo n) (rangeItems lo n) := fun fx i F1 G1 H1 sd1 σ1 _ _ S1 => by
  have hl : (rangeItems lo n).length = n := by simp [rangeItems]
  refine ⟨fun e => by rw [hl] at e; exact Nat.le_of_eq e.symm, fun r er => ?_⟩
  have hi : i < n := by rw [← hl]; exact (List.getElem?_eq_some_iff.mp er).1
  refine ⟨hi, fun x H2 y => ?_⟩
  obtain ⟨rfl, rfl⟩ := y
  unfold rangeItems at er
  rw [List.getElem?_map, List.getElem?_range hi] at er
  cases er
  exact ⟨F1, G1, Same.refl _, Same.refl _, S1, .int _⟩
def rangeOk (i : Int) : Bool := decide (-4611686018427387904 ≤ i) && decide (i < 4611686018427387904)
theorem rangeOk_of {i : Int} (h : rangeOk i = true) : -(2 ^ 62) ≤ i ∧ i < 2 ^ 62 := by
  unfold rangeOk at h
  rw [Bool.and_eq_true, decide_eq_true_eq, decide_eq_true_eq] at h
  have : (2 : Int) ^ 62 = 4611686018427387904 := by decide
  omega
def gRange1 : List D → Option (List RV)
  | [.int j] => if rangeOk j then some (rangeItems 0 j.toNat) else none
  | _ => none
def gRange2 : List D → Option (List RV)
  | [.int i, .int j] => if rangeOk i && rangeOk j then some (rangeItems i (j - i).toNat) else none
  | _ => none
def mRange (g : List D → Option (List RV)) (ma : M (List RV)) : M (List RV) := mBind ma fun rs => mBind (mReads rs) fun ds => mBind (mGet (g ds)) fun is => mPure is
theorem si_range1 {p : Pos} {ma : M (List RV)} (hg : Gl X "range") (hm : X.mg "range" = none) (ha : SA fx X Wx [a] ma) (hs : starEach [a] X.env = [(false, eval a X.env)] := by rfl) : SI fx X Wx tg (.Call (.Name "range" p) [a] [] pos) (mRange gRange1 ma) := by
  obtain ⟨t, pa, q⟩ := ha.ex
  refine ⟨_, pi_range1 hg hm pa hs, fun F G H sd σ Rj S h => argsI q S h fun F1 G1 H1 sd1 rs vs e1 e2 S1 r1 h => ?_⟩
  obtain ⟨ds, p2, h⟩ := h.reads S1 r1
  obtain ⟨is, k1, h⟩ := h.get
  unfold gRange1 at k1
  split at k1
  · split at k1
    · rename_i j hj
      cases k1
      obtain ⟨v, rfl, q⟩ := p2.one_inv
      obtain rfl := q.int_inv
      obtain ⟨b1, b2⟩ := rangeOk_of hj
      exact ⟨j, rfl, b1, b2, h F1 G1 H1 _ (Same.refl _) (Same.refl _) S1 (range_walks 0 j.toNat)⟩
    · cases k1
  · cases k1
theorem si_range2 {p : Pos} {ma : M (List RV)} (hg : Gl X "range") (hm : X.mg "range" = none) (ha : SA fx X Wx [a, b] ma) (hs : starEach [a, b] X.env = [(false, eval a X.env), (false, eval b X.env)] := by rfl) (hs2 : starEach [b] X.env = [(false, eval b X.env)] := by rfl) : SI fx X Wx tg (.Call (.Name "range" p) [a, b] [] pos) (mRange gRange2 ma) := by
  obtain ⟨t, pa, q⟩ := ha.ex
  refine ⟨_, pi_range2 hg hm pa hs hs2, fun F G H sd σ Rj S h => argsI q S h fun F1 G1 H1 sd1 rs vs e1 e2 S1 r1 h => ?_⟩
  obtain ⟨ds, p2, h⟩ := h.reads S1 r1
  obtain ⟨is, k1, h⟩ := h.get
  unfold gRange2 at k1
  split at k1
  · split at k1
    · rename_i i j hj
      rw [Bool.and_eq_true] at hj
      cases k1
      obtain ⟨v, w, rfl, q, q'⟩ := p2.two_inv
      obtain rfl := q.int_inv
      obtain rfl := q'.int_inv
      obtain ⟨b1, b2⟩ := rangeOk_of hj.1
      obtain ⟨b3, b4⟩ := rangeOk_of hj.2
      exact ⟨i, j, rfl, ⟨b1, b2, b3, b4⟩, h F1 G1 H1 _ (Same.refl _) (Same.refl _) S1 (range_walks i (j - i).toNat)⟩
    · cases k1
  · cases k1

/-! ### for -/
def forGo (g : MG) (body : MS) : List RV → MS
  | [], sd => .nx sd
  | r :: rs, sd => match g r sd with
    | none => .fail
    | some sd1 => match body sd1 with
      | .nx sd2 => forGo g body rs sd2
      | .ct sd2 => forGo g body rs sd2
      | .bk sd2 => .nx sd2
      | r => r
def mFor (mi : M (List RV)) (g : MG) (body : MS) : MS := mThen mi fun items => forGo g body items
theorem ss_for {mi : M (List RV)} {sl : List Nat} {g : MG} {body : MS} (hp : PassesOwn (model X.prog X.w) X.A X.env X.xe) (hc : X.calm = true) (hi : SI fx X Wx tg e mi) (hg : SG fx X tg sl g) (hb : SSs fx X Wx sts body)
    (hs : ∀ x, foldedSetIterable e X.env x = pure x := by intro _; rfl) : SS fx X Wx (.For tg e sts [] pos) (mFor mi g body) := by
  obtain ⟨wi, pi, qi⟩ := hi.ex
  obtain ⟨tg', pg, qg⟩ := hg.ex
  obtain ⟨tb, pb, qb⟩ := hb.ex
  refine ⟨_, ps_for hp hc pi pg pb hs, fun F G H sd σ D S h => qi F G H sd σ _ S ?_⟩
  unfold mFor mThen at h
  cases ei : mi sd with
  | fail => rw [ei] at h; exact h
  | exc x sd1 => rw [ei] at h; exact fun F' G' H' c d e1 e2 S q => h F' G' H' σ c d e1 e2 S q
  | ok items sd1 =>
    rw [ei] at h
    intro F1 G1 H1 J e1 e2 S1 wk
    have h := PoS.mono e1 e2 h
    refine ⟨fun i m σ H => m = items.length - i ∧ i ≤ items.length ∧ ∃ F' G' sd', Same F1 F' ∧ Same G1 G' ∧ SR (wd X) fx F' G' H sd' σ ∧ PoS (wd X) fx F' G' Wx D (forGo g body (items.drop i) sd'), ⟨items.length, by simp, Nat.zero_le _, F1, G1, sd1, Same.refl _, Same.refl _, S1, by simpa using h⟩, ?_⟩
    rintro i m σ2 H2 ⟨rfl, hi, F2, G2, sd2, j1, j2, S2, h2⟩
    obtain ⟨w1, w2⟩ := wk fx i F2 G2 H2 sd2 σ2 j1 j2 S2
    by_cases hlt : i < items.length
    · obtain ⟨go, y⟩ := w2 items[i] (List.getElem?_eq_getElem hlt)
      refine .inr ⟨go, fun σ' H' => ∃ F' G' sd', Same F1 F' ∧ Same G1 G' ∧ SR (wd X) fx F' G' H' sd' σ' ∧ PoS (wd X) fx F' G' Wx D (forGo g body (items.drop (i + 1)) sd'), fun σ' H' n => ⟨items.length - (i + 1), by omega, rfl, hlt, n⟩, fun x H3 yx => ?_⟩
      obtain ⟨F3, G3, j3, j4, S3, r3⟩ := y x H3 yx
      rw [List.drop_eq_getElem_cons hlt] at h2
      unfold forGo at h2
      have h2 := PoS.mono j3 j4 h2
      cases eg : g items[i] sd2 with
      | none => rw [eg] at h2; exact h2.elim
      | some sd3 =>
        rw [eg] at h2
        refine qg F3 G3 H3 sd2 sd3 σ2 items[i] x _ S3 r3 eg fun F4 G4 H4 σ4 j5 j6 S4 _ => ?_
        have h2 := PoS.mono j5 j6 h2
        refine qb F4 G4 H4 sd3 σ4 _ S4 ?_
        dsimp only at h2
        cases eb : body sd3 with
        | nx sd5 =>
          rw [eb] at h2
          exact fun F5 G5 H5 σ5 j7 j8 S5 => ⟨F5, G5, sd5, ((j1.trans j3).trans j5).trans j7, ((j2.trans j4).trans j6).trans j8, S5, PoS.mono j7 j8 h2⟩
        | ct sd5 =>
          rw [eb] at h2
          exact fun F5 G5 H5 σ5 j7 j8 S5 => ⟨F5, G5, sd5, ((j1.trans j3).trans j5).trans j7, ((j2.trans j4).trans j6).trans j8, S5, PoS.mono j7 j8 h2⟩
        | bk sd5 => rw [eb] at h2; exact h2
        | ret r sd5 => rw [eb] at h2; exact h2
        | exc x sd5 => rw [eb] at h2; exact h2
        | fail => rw [eb] at h2; exact h2
    · have e : i = items.length := by omega
      subst e
      rw [List.drop_length] at h2
      exact .inl ⟨w1 rfl, h2 F2 G2 H2 σ2 (Same.refl _) (Same.refl _) S2⟩

/-! ### while -/
def whileGo (mc : M Bool) (body : MS) : Nat → MS
  | 0, _ => .fail
  | n + 1, sd => match mc sd with
    | .ok true sd1 => match body sd1 with
      | .nx sd2 => whileGo mc body n sd2
      | .ct sd2 => whileGo mc body n sd2
      | .bk sd2 => .nx sd2
      | r => r
    | .ok false sd1 => .nx sd1
    | .exc x sd1 => .exc x sd1
    | .fail => .fail
theorem ss_while {mc : M Bool} {body : MS} (fuel : Nat) (hp : PassesOwn (model X.prog X.w) X.A X.env X.xe) (hc : ST fx X Wx c mc) (hb : SSs fx X Wx sts body) : SS fx X Wx (.While c sts [] pos) (whileGo mc body fuel) := by
  obtain ⟨tc, pc, qc⟩ := hc.ex
  obtain ⟨tb, pb, qb⟩ := hb.ex
  refine ⟨_, ps_while hp pc pb, fun F G H sd σ D S h => ?_⟩
  refine ⟨fun n σ H => ∃ F' G' sd', SR (wd X) fx F' G' H sd' σ ∧ PoS (wd X) fx F' G' Wx D (whileGo mc body n sd'), ⟨fuel, F, G, sd, S, h⟩, ?_⟩
  rintro n σ1 H1 ⟨F1, G1, sd1, S1, h1⟩
  refine qc F1 G1 H1 sd1 σ1 _ S1 ?_
  cases n with
  | zero => exact h1.elim
  | succ n =>
    unfold whileGo at h1
    cases ec : mc sd1 with
    | fail => rw [ec] at h1; exact h1
    | exc x sd2 => rw [ec] at h1; exact fun F' G' H' c d e1 e2 S q => h1 F' G' H' σ1 c d e1 e2 S q
    | ok t sd2 =>
      rw [ec] at h1
      intro F2 G2 H2 b e1 e2 S2 qb'
      subst qb'
      have h1 := PoS.mono e1 e2 h1
      cases t with
      | false =>
        rw [if_neg Bool.false_ne_true]
        exact h1 F2 G2 H2 σ1 (Same.refl _) (Same.refl _) S2
      | true =>
        rw [if_pos rfl]
        refine ⟨fun σ' H' => ∃ F' G' sd', SR (wd X) fx F' G' H' sd' σ' ∧ PoS (wd X) fx F' G' Wx D (whileGo mc body n sd'), fun σ' H' k => ⟨n, Nat.lt_succ_self n, k⟩, qb F2 G2 H2 sd2 σ1 _ S2 ?_⟩
        dsimp only at h1
        cases eb : body sd2 with
        | nx sd5 => rw [eb] at h1; exact fun F5 G5 H5 σ5 j7 j8 S5 => ⟨F5, G5, sd5, S5, PoS.mono j7 j8 h1⟩
        | ct sd5 => rw [eb] at h1; exact fun F5 G5 H5 σ5 j7 j8 S5 => ⟨F5, G5, sd5, S5, PoS.mono j7 j8 h1⟩
        | bk sd5 => rw [eb] at h1; exact h1
        | ret r sd5 => rw [eb] at h1; exact h1
        | exc x sd5 => rw [eb] at h1; exact h1
        | fail => rw [eb] at h1; exact h1

/-! ### x[i] = e, x an own list (dict): by values -/
structure SetS (X : Cx) (kd : D → Bool) (g : D → D → D → Option D) (t : TSet) : Prop where
  st : PSet X t
  go : ∀ F H p x k d v w x' (Q : Hp → Prop), Same F H → F p = none → OwnO (wd X) F H p x → kd x = true → Rep (wd X) H k w → Rep (wd X) F d v → g x k d = some x' → (∀ o, OwnO (wd X) F (upd H p o) p x' → Q (upd H p o)) → t (.ref p) w v H Q
def mSetIx (kd : D → Bool) (g : D → D → D → Option D) (i : Nat) (mi me : M RV) : MS := mThen (mBind me fun r => mBind (mShare r) fun d => mBind (mOwn i) fun _ => mBind mi fun r => mBind (mRead r.keep) fun k => mBind (mOwn i) fun x => if kd x then mBind (mGet (g x k d)) fun x' => mPutOwn i x' else mFail) fun _ => mSkip
theorem Po.share {α β : Type} {W : Wd} {F G H : Hp} {σ : St} {Rl : Hp → Hp → Hp → List SV → α → β → Prop} {Q : β → Hp → Prop} {r : RV} {v : V} {k : D → M α} {sd : List SV} (S : SR W fx F G H sd σ) (q : RVR W fx F G H sd σ r.keep v) (h : Po W fx F G σ Wx Rl Q ((mBind (mShare r) k) sd)) :
    ∃ d sd' F' G', Same F F' ∧ Same G G' ∧ SR W fx F' G' H sd' σ ∧ Rep W F' d v ∧ Po W fx F' G' σ Wx Rl Q (k d sd') := by
  unfold mBind at h
  cases e : mShare r sd with
  | fail => rw [e] at h; exact h.elim
  | exc x s =>
    exfalso
    unfold mShare at e
    split at e <;> first | (cases e; done) | (split at e <;> cases e)
  | ok d sd' =>
    rw [e] at h
    obtain ⟨F', G', e1, e2, S', p⟩ := share_ok S q e
    exact ⟨d, sd', F', G', e1, e2, S', p, Po.mono e1 e2 h⟩
theorem mThen_po {α : Type} {W : Wd} {F G : Hp} {σ : St} {m : M α} {k : α → MS} {D : Ends} {sd : List SV} {β : Type} {Rl : Hp → Hp → Hp → List SV → α → β → Prop} (h : PoS W fx F G Wx D (mThen m k sd)) : Po W fx F G σ Wx Rl (fun b H => ∃ a sd' F' G', Same F F' ∧ Same G G' ∧ SR W fx F' G' H sd' σ ∧ Rl F' G' H sd' a b ∧ PoS W fx F' G' Wx D (k a sd')) (m sd) := by
  unfold mThen at h
  cases e : m sd with
  | fail => rw [e] at h; exact h
  | exc x s => rw [e] at h; exact fun F' G' H' c d e1 e2 S q => h F' G' H' σ c d e1 e2 S q
  | ok a sd' =>
    rw [e] at h
    exact fun F' G' H' b e1 e2 S q => ⟨a, sd', F', G', e1, e2, S, q, PoS.mono e1 e2 h⟩
theorem ss_setIx {i : Nat} {x : Str} {p1 p2 : Pos} {kd : D → Bool} {g : D → D → D → Option D} {t : TSet} {mi me : M RV} (hset : SetS X kd g t) (hN : X.N[i]? = some x) (hv : Vis X.env.scope x) (hi : SE fx X Wx b mi) (he : SE fx X Wx e me)
    (hd : (x == ("__debug__" : Str)) = false := by decide) (hcd : (x == ("__classdict__" : Str)) = false := by decide)
    (ha : ∀ v, assign (.Subscript (.Name x p1) b p2) X.env v = (do
      let ov ← holding [v] (eval (.Name x p1) X.env)
      let iv ← holding [v, ov] (eval b X.env)
      standAt p2
      holding [v, ov, iv] (setItem ov iv v)
      release [v, ov, iv] []) := by intro _; rfl)
    (hs : swapsWithSole [.Subscript (.Name x p1) b p2] e pos.line X.env = pure false := by rfl) (hw : swappedStores [.Subscript (.Name x p1) b p2] e X.env = pure none := by rfl)
    (h1 : (assignEach [.Subscript (.Name x p1) b p2] X.env).map (·.2) = [assign (.Subscript (.Name x p1) b p2) X.env] := by rfl) :
    SS fx X Wx (.Assign [.Subscript (.Name x p1) b p2] e pos) (mSetIx kd g i mi me) := by
  obtain ⟨te, pe, qe⟩ := he.ex
  obtain ⟨ti, pi, qi⟩ := hi.ex
  refine ⟨_, ps_asg pe (pg_sub (pe_var hN hv hd hcd) pi hset.st ha) hs hw h1, fun F G H sd σ D S h => ?_⟩
  have h := mThen_po (σ := σ) (β := Unit) (Rl := fun _ _ _ _ _ _ => True) h
  refine one qe S h fun F1 G1 H1 sd1 ra v e1 e2 S1 r1 h => ?_
  obtain ⟨d, sd2, F2, G2, e3, e4, S2, rd, h⟩ := h.share S1 r1
  obtain ⟨_, _, p0, _, _, hw', _, _, h⟩ := h.own S2
  refine ⟨.ref p0, hw', one qi S2 h fun F3 G3 H3 sd3 rk u e5 e6 S3 r3 h => ?_⟩
  obtain ⟨k, k1, h⟩ := h.read
  obtain ⟨x0, s0, p, e0, hs0, hp, ow, hG, h⟩ := h.own S3
  rw [hw'] at hp; cases hp
  split at h
  · rename_i hk
    obtain ⟨x', k2, h⟩ := h.getB
    obtain ⟨sd4, S4, h⟩ := Po.putOwn (k := fun u => mPure u) S3 e0 hs0 hw' (d' := x') (by
      unfold mBind
      cases em : mPutOwn i x' sd3 with
      | ok u s => rw [em] at h; exact h
      | fail => rw [em] at h; exact h
      | exc x s => rw [em] at h; exact h)
    refine hset.go F3 H3 p0 x0 k d v u x' _ S3.fh (S3.fg.free hG) ow hk (r3.read S3 k1) (rd.keep e5) k2 fun o ow' => ?_
    obtain ⟨a, sd', F', G', j1, j2, S', _, h⟩ := h F3 G3 _ () (Same.refl _) (Same.refl _) (S4 o ow') True.intro
    exact h F' G' _ σ (Same.refl _) (Same.refl _) S'
  · exact h.elim
def gSetL : D → D → D → Option D
  | .lst xs, .int k, d => (ixN xs.length k).map fun j => .lst (xs.set j d)
  | _, _, _ => none
theorem st_setL : SetS X D.isLst gSetL rSetL := ⟨set_list, fun F H p x k d v w x' Q e hF ow hk rk rd h K => by
  unfold gSetL at h
  split at h
  · rename_i xs k0
    cases ei : ixN xs.length k0 with
    | none => rw [ei] at h; cases h
    | some j =>
      rw [ei] at h
      cases h
      obtain ⟨us, h1, h2⟩ := ow
      obtain rfl := rk.int_inv
      exact ⟨p, us, k0, j, rfl, rfl, h1, by rw [← h2.n]; exact ei, K _ ⟨_, upd_same, h2.set j rd⟩⟩
  · cases h⟩
end
end Av

/-! defs and their calls -/
namespace Av
open PySem PySem.Spec PyProof.Rows L2

/-- a def's end: its value (shared or fresh), the final contents of what was handed over -/
inductive FR where
  | ok (r : RV) (outs : List D)
  | exc (x : Xn) (outs : List D)
  | fail
abbrev MF := List SV → FR
def outOf (sd : List SV) (i : Nat) : Option D := match sd[i]?.getD .no with
  | .io d => some d
  | _ => none
def outsOf (sd : List SV) : List Nat → Option (List D)
  | [] => some []
  | i :: is => (outOf sd i).bind fun d => (outsOf sd is).map fun ds => d :: ds
/-- a result that may leave the frame -/
def leaves (sd : List SV) : RV → Option RV
  | .val d => some (.val d)
  | .fresh d => some (.fresh d)
  | .bval d => if d.imm then some (.val d) else none
  | .slot i => match sd[i]?.getD .no with
    | .own d => some (.fresh d)
    | .sh d => some (.val d)
    | .bor d => if d.imm then some (.val d) else none
    | _ => none
def finF (ios : List Nat) : RS → FR
  | .ret r sd => match leaves sd r, outsOf sd ios with
    | some r, some os => .ok r os
    | _, _ => .fail
  | .nx sd => match outsOf sd ios with
    | some os => .ok (.val .non) os
    | none => .fail
  | .exc x sd => match outsOf sd ios with
    | some os => .exc x os
    | none => .fail
  | _ => .fail
/-- np parameters, n names in all -/
def mDef (np n : Nat) (ios : List Nat) (body : MS) : MF := fun args => if args.length = np then finF ios (body (args ++ List.replicate (n - np) .no)) else .fail
def ResR (W : Wd) (F G H H0 : Hp) (r : RV) (v : V) : Prop := match r with
  | .val d => Rep W F d v
  | .fresh d => ∃ a, v = .ref a ∧ G a = none ∧ H0 a = none ∧ OwnO W F H a d
  | _ => False
def OutsR (W : Wd) (F G H : Hp) (pin : List (Nat × Addr)) (ios : List Nat) (outs : List D) : Prop := ios.length = outs.length ∧ ∀ (k i : Nat) d, ios[k]? = some i → outs[k]? = some d → ∃ a, (i, a) ∈ pin ∧ G a = none ∧ OwnO W F H a d
/-- the promise of a def whose run is mf -/
def spD (W : Wd) (ios : List Nat) (mf : MF) : Sp := fun vs H Q E => ∃ (F G : Hp) (pin : List (Nat × Addr)) (svs : List SV),
  SR W ⟨H, F, G, pin, []⟩ F G H svs (vs.map some) ∧ (∀ a o, H a = some o → (∀ i, (i, a) ∉ pin) → G a = some o) ∧ (∀ i ∈ ios, ∃ d, svs[i]? = some (.io d)) ∧
  match mf svs with
  | .ok r outs => ∀ v F' G' H', HR ⟨H, F, G, pin, []⟩ F' G' H' → ResR W F' G' H' H r v → OutsR W F' G' H' pin ios outs → Q v H'
  | .exc x outs => ∀ c d F' G' H', HR ⟨H, F, G, pin, []⟩ F' G' H' → ExR W F' H' x c d → OutsR W F' G' H' pin ios outs → E c d H'
  | .fail => False
section
variable {fx : Fx} {W : Wd}
theorem outs_ok {F G H : Hp} {sd : List SV} {σ : L2.St} (S : SR W fx F G H sd σ) : ∀ {ios : List Nat} {outs : List D}, outsOf sd ios = some outs → OutsR W F G H fx.pin ios outs
  | [], outs, h => by cases h; exact ⟨rfl, fun k i d h => by simp at h⟩
  | i :: is, outs, h => by
    unfold outsOf at h
    cases e1 : outOf sd i with
    | none => rw [e1] at h; cases h
    | some d =>
      rw [e1] at h
      cases e2 : outsOf sd is with
      | none => rw [e2] at h; cases h
      | some ds =>
        rw [e2] at h
        cases h
        obtain ⟨h1, h2⟩ := outs_ok S e2
        refine ⟨by simp [h1], fun k j d' k1 k2 => ?_⟩
        cases k with
        | succ k => exact h2 k j d' (by simpa using k1) (by simpa using k2)
        | zero =>
          simp at k1 k2
          subst k1 k2
          unfold outOf at e1
          cases e3 : sd[i]? with
          | none => rw [e3] at e1; cases e1
          | some s =>
            rw [e3] at e1
            cases s <;> try (cases e1; done)
            cases e1
            obtain ⟨a, q0, q1, q2, q3⟩ := S.slot i _ e3
            exact ⟨a, q0, q2, q3⟩
theorem leaves_ok {F G H : Hp} {sd : List SV} {σ : L2.St} {r r' : RV} {v : V} (S : SR W fx F G H sd σ) (q : RVR W fx F G H sd σ r v) (h : leaves sd r = some r') : ResR W F G H fx.H0 r' v := by
  cases r with
  | val d => cases h; exact q
  | fresh d => cases h; obtain ⟨a, h1, h2, h3, h4, _⟩ := q; exact ⟨a, h1, h2, h3, h4⟩
  | bval d =>
    unfold leaves at h
    dsimp only at h
    split at h
    · rename_i hi; cases h; exact Rep.imm S.tup (Rep.keep S.gh q) hi
    · cases h
  | slot i =>
    unfold leaves at h
    dsimp only at h
    have q : σ[i]? = some (some v) := q
    cases e : sd[i]? with
    | none => rw [e] at h; cases h
    | some s =>
      rw [e] at h
      have k := S.slot i s e
      cases s with
      | own d => cases h; obtain ⟨a, h1, h2, h3, h4⟩ := k; rw [q] at h1; cases h1; exact ⟨a, rfl, h2, h3, h4⟩
      | sh d => cases h; obtain ⟨a, h1, h2⟩ := k; rw [q] at h1; cases h1; exact h2
      | bor d =>
        dsimp only [Option.getD_some] at h
        obtain ⟨a, h1, h2⟩ := k; rw [q] at h1; cases h1
        split at h
        · rename_i hi; cases h; exact Rep.imm S.tup (h2.keep S.gh) hi
        · cases h
      | no => cases h
      | io d => cases h
/-- the frame at the entry: the parameters, then the names without a value -/
theorem SR.start {F G H : Hp} {svs : List SV} {vs : List V} {n : Nat} (S : SR W fx F G H svs (vs.map some)) : SR W fx F G H (svs ++ List.replicate n .no) (vs.map some ++ List.replicate n none) where
  toHR := S.toHR
  len := by have := S.len; simp at this ⊢; exact this
  slot := fun i s e => by
    have hl := S.len
    by_cases hi : i < svs.length
    · rw [List.getElem?_append_left hi] at e
      have q := S.slot i s e
      have es : (vs.map some ++ List.replicate n none)[i]? = (vs.map some)[i]? := List.getElem?_append_left (by rw [← hl]; exact hi)
      cases s with
      | no => exact q
      | sh d => obtain ⟨w, h1, h2⟩ := q; exact ⟨w, es.trans h1, h2⟩
      | bor d => obtain ⟨w, h1, h2⟩ := q; exact ⟨w, es.trans h1, h2⟩
      | own d => obtain ⟨w, h1, h2⟩ := q; exact ⟨w, es.trans h1, h2⟩
      | io d => obtain ⟨w, h0, h1, h2⟩ := q; exact ⟨w, h0, es.trans h1, h2⟩
    · rw [List.getElem?_append_right (by omega), List.getElem?_replicate] at e
      split at e
      · cases e; exact True.intro
      · cases e
  apart := fun i j s s' a e1 e2 m1 m2 p1 p2 => by
    have low : ∀ {i : Nat} {s : SV}, (svs ++ List.replicate n SV.no)[i]? = some s → s.mine = true → i < svs.length := fun {i s} e m => by
      by_cases hi : i < svs.length
      · exact hi
      · rw [List.getElem?_append_right (by omega), List.getElem?_replicate] at e
        split at e
        · cases e; cases m
        · cases e
    have h1 := low e1 m1
    have h2 := low e2 m2
    have hl := S.len
    rw [List.getElem?_append_left h1] at e1
    rw [List.getElem?_append_left h2] at e2
    rw [List.getElem?_append_left (by rw [← hl]; exact h1)] at p1
    rw [List.getElem?_append_left (by rw [← hl]; exact h2)] at p2
    exact S.apart i j s s' a e1 e2 m1 m2 p1 p2
  free := fun a o hm i s e m p => by
    have hi : i < svs.length := by
      by_cases hi : i < svs.length
      · exact hi
      · rw [List.getElem?_append_right (by omega), List.getElem?_replicate] at e
        split at e
        · cases e; cases m
        · cases e
    have hl := S.len
    rw [List.getElem?_append_left hi] at e
    rw [List.getElem?_append_left (by rw [← hl]; exact hi)] at p
    exact S.free a o hm i s e m p
end
/-- THE RULE: a def by the run of its body -/
theorem def_ok {P : Program} {w : World} {K : PySem.W.Frag} {mg : Str → Option Value} {base : Heap} {x qual : Str} {st : Stmt} {f : Addr} {fd : FuncData} {N ps : List Str} {k : Nat} {ios : List Nat} {body : MS} (F : Fun K x qual st f fd) (S : FnScope N ps (defScope st))
    (hbody : ∀ (cdv : Value) (A : Around) (outer : List Env) (s : Shared) (H : Hp) (E : XK) (fx : Fx), Room k (A.deeper (envOfC qual (defScope st) s.heap.objs.size f cdv)) →
      SSs fx (cxOf (L2.CX P w) P w K mg base N qual (defScope st) f cdv A outer s H E) (fun c d _ H => E c d H) (defBody st) body) :
    FnOk P w K mg base (L2.CX P w) (k + 1) f fd ps (spD ⟨K, mg⟩ ios (mDef ps.length N.length ios body)) := by
  have hpl : ps.length ≤ N.length := by have := congrArg List.length S.pre; rw [List.length_take] at this; omega
  have hlen : ∀ vs H Q E, spD ⟨K, mg⟩ ios (mDef ps.length N.length ios body) vs H Q E → vs.length = ps.length := fun vs H Q E h => by
    obtain ⟨F0, G0, pin, svs, SR0, _, _, h⟩ := h
    unfold mDef at h
    by_cases hl : svs.length = ps.length
    · have := SR0.len; rw [List.length_map] at this; omega
    · rw [if_neg hl] at h; exact h.elim
  refine F.okX S hlen fun cdv A outer s H vs Q E hr h => ?_
  have hl := hlen _ _ _ _ h
  obtain ⟨F0, G0, pin, svs, SR0, full, hio, h⟩ := h
  have hsl : svs.length = ps.length := by have := SR0.len; rw [List.length_map] at this; omega
  unfold mDef at h
  rw [if_pos hsl] at h
  obtain ⟨t, pt, qt⟩ := (hbody cdv A outer s H E ⟨H, F0, G0, pin, []⟩ hr).ex
  refine ⟨t, pt, ?_⟩
  have S1 := SR0.start (n := N.length - ps.length)
  have est : L2.start N vs = vs.map some ++ List.replicate (N.length - ps.length) none := by
    unfold L2.start
    rw [hl]
  rw [est]
  refine qt F0 G0 H _ _ _ S1 ?_
  cases eb : body (svs ++ List.replicate (N.length - ps.length) SV.no) with
  | ret r sd =>
    rw [eb] at h
    unfold finF at h
    dsimp only at h
    cases el : leaves sd r with
    | none => rw [el] at h; exact h.elim
    | some r' =>
      cases eo : outsOf sd ios with
      | none => rw [el, eo] at h; exact h.elim
      | some os =>
        rw [el, eo] at h
        exact fun F' G' H' σ' v e1 e2 S' q => h v F' G' H' S'.toHR (leaves_ok S' q el) (outs_ok S' eo)
  | nx sd =>
    rw [eb] at h
    unfold finF at h
    dsimp only at h
    cases eo : outsOf sd ios with
    | none => rw [eo] at h; exact h.elim
    | some os =>
      rw [eo] at h
      exact fun F' G' H' σ' e1 e2 S' => h .non F' G' H' S'.toHR .non (outs_ok S' eo)
  | exc x sd =>
    rw [eb] at h
    unfold finF at h
    dsimp only at h
    cases eo : outsOf sd ios with
    | none => rw [eo] at h; exact h.elim
    | some os =>
      rw [eo] at h
      exact fun F' G' H' σ' c d e1 e2 S' q => h c d F' G' H' S'.toHR q (outs_ok S' eo)
  | bk sd => rw [eb] at h; exact h.elim
  | ct sd => rw [eb] at h; exact h.elim
  | fail => rw [eb] at h; exact h.elim
end Av

/-! a def is called -/
namespace Av
open PySem L2
/-- how an argument is handed on. io: it may be changed there -/
def passOne (sd : List SV) (io : Bool) (r : RV) : Option SV := if io then
    match r with
    | .slot j => match sd[j]?.getD .no with
      | .own d => some (.io d)
      | .io d => some (.io d)
      | _ => none
    | _ => none
  else
    match r with
    | .val d => some (.sh d)
    | .fresh d => some (.sh d)
    | .bval d => some (if d.imm then .sh d else .bor d)
    | .slot j => match sd[j]?.getD .no with
      | .own d => some (.bor d)
      | .io d => some (.bor d)
      | .sh d => some (.sh d)
      | .bor d => some (.bor d)
      | .no => none
def passAll (sd : List SV) (ios : List Nat) : Nat → List RV → Option (List SV)
  | _, [] => some []
  | i, r :: rs => (passOne sd (ios.contains i) r).bind fun s => (passAll sd ios (i + 1) rs).map fun ss => s :: ss
/-- the slots of the arguments that may be changed -/
def ioSlots (rs : List RV) : List Nat → Option (List Nat)
  | [] => some []
  | i :: is => match rs[i]? with
    | some (.slot j) => (ioSlots rs is).map fun js => j :: js
    | _ => none
/-- no slot is handed over twice, none is lent beside -/
def apartOk (rs : List RV) (ios js : List Nat) : Bool := decide js.Nodup && (List.range rs.length).all fun i => ios.contains i || match rs[i]? with
  | some (.slot j) => !js.contains j
  | _ => true
def updSV (ws : List (Nat × D)) (j : Nat) (s : SV) : SV := match ws.lookup j with
  | some d => match s with
    | .own _ => .own d
    | .io _ => .io d
    | s => s
  | none => s
def wb (ws : List (Nat × D)) : Nat → List SV → List SV
  | _, [] => []
  | n, s :: r => updSV ws n s :: wb ws (n + 1) r
theorem wb_get (ws : List (Nat × D)) : ∀ (n : Nat) (sd : List SV) (j : Nat), (wb ws n sd)[j]? = sd[j]?.map (updSV ws (n + j))
  | n, [], j => by simp [wb]
  | n, s :: r, 0 => by simp [wb]
  | n, s :: r, j + 1 => by
    simp only [wb, List.getElem?_cons_succ]
    rw [wb_get ws (n + 1) r j]
    congr 2
    omega
theorem wb_len (ws : List (Nat × D)) : ∀ (n : Nat) (sd : List SV), (wb ws n sd).length = sd.length
  | n, [] => rfl
  | n, s :: r => by simp [wb, wb_len ws (n + 1) r]
def mCall (ios : List Nat) (mf : MF) (ma : M (List RV)) : M RV := mBind ma fun rs => fun sd => match passAll sd ios 0 rs, ioSlots rs ios with
  | some svs, some js => if apartOk rs ios js then
      match mf svs with
      | .ok r outs => .ok r (wb (js.zip outs) 0 sd)
      | .exc x outs => .exc x (wb (js.zip outs) 0 sd)
      | .fail => .fail
    else .fail
  | _, _ => .fail
theorem passAll_get {sd : List SV} {ios : List Nat} : ∀ {rs : List RV} {n : Nat} {svs : List SV}, passAll sd ios n rs = some svs → svs.length = rs.length ∧ ∀ (i : Nat) s, svs[i]? = some s → ∃ r, rs[i]? = some r ∧ passOne sd (ios.contains (n + i)) r = some s
  | [], n, svs, h => by cases h; exact ⟨rfl, fun i s e => by simp at e⟩
  | r :: rs, n, svs, h => by
    unfold passAll at h
    cases e1 : passOne sd (ios.contains n) r with
    | none => rw [e1] at h; cases h
    | some s =>
      rw [e1] at h
      cases e2 : passAll sd ios (n + 1) rs with
      | none => rw [e2] at h; cases h
      | some ss =>
        rw [e2] at h
        cases h
        obtain ⟨h1, h2⟩ := passAll_get e2
        refine ⟨by simp [h1], fun i s' e => ?_⟩
        cases i with
        | zero => simp at e; subst e; exact ⟨r, rfl, e1⟩
        | succ i =>
          obtain ⟨r', k1, k2⟩ := h2 i s' (by simpa using e)
          exact ⟨r', by simpa using k1, by rw [show n + (i + 1) = n + 1 + i by omega]; exact k2⟩
theorem ioSlots_get {rs : List RV} : ∀ {ios js : List Nat}, ioSlots rs ios = some js → js.length = ios.length ∧ ∀ (k i j : Nat), ios[k]? = some i → js[k]? = some j → rs[i]? = some (.slot j)
  | [], js, h => by cases h; exact ⟨rfl, fun k i j e => by simp at e⟩
  | i :: is, js, h => by
    unfold ioSlots at h
    split at h
    · rename_i j e1
      cases e2 : ioSlots rs is with
      | none => rw [e2] at h; cases h
      | some ss =>
        rw [e2] at h
        cases h
        obtain ⟨h1, h2⟩ := ioSlots_get e2
        refine ⟨by simp [h1], fun k i' j' k1 k2 => ?_⟩
        cases k with
        | zero => simp at k1 k2; subst k1 k2; exact e1
        | succ k => exact h2 k i' j' (by simpa using k1) (by simpa using k2)
    · cases h
section
variable {fx : Fx} {W : Wd} {F G H : Hp} {sd : List SV} {σ : L2.St} {rs : List RV} {vs : List V} {ios js : List Nat} {svs : List SV}
/-- which address is handed over for which parameter -/
def PinOk (sd : List SV) (σ : L2.St) (ios js : List Nat) (pin : List (Nat × Addr)) : Prop := pin.length = ios.length ∧ ∀ (k i : Nat) (a : Addr), pin[k]? = some (i, a) → ios[k]? = some i ∧ ∃ j s, js[k]? = some j ∧ sd[j]? = some s ∧ s.mine = true ∧ σ[j]? = some (some (V.ref a))
/-- the pins are there -/
theorem pins_there (S : SR W fx F G H sd σ) (q : RVRs W fx F G H sd σ rs vs) (hp : passAll sd ios 0 rs = some svs) (hj : ioSlots rs ios = some js) : ∃ pin, PinOk sd σ ios js pin := by
  obtain ⟨hl, hg⟩ := ioSlots_get hj
  obtain ⟨pl, pg⟩ := passAll_get hp
  -- each one by itself
  have each : ∀ (k i : Nat), ios[k]? = some i → ∃ a j s, js[k]? = some j ∧ sd[j]? = some s ∧ s.mine = true ∧ σ[j]? = some (some (V.ref a)) := fun k i hk => by
    have hkj : k < js.length := by rw [hl]; exact (List.getElem?_eq_some_iff.mp hk).1
    have hr := hg k i js[k] hk (List.getElem?_eq_getElem hkj)
    have hi : i < svs.length := by rw [pl]; exact (List.getElem?_eq_some_iff.mp hr).1
    obtain ⟨r, h1, h2⟩ := pg i svs[i] (List.getElem?_eq_getElem hi)
    rw [hr] at h1; cases h1
    have hc : ios.contains (0 + i) = true := by
      rw [Nat.zero_add]
      exact List.contains_iff_mem.mpr (List.mem_of_getElem? hk)
    rw [hc] at h2
    unfold passOne at h2
    rw [if_pos rfl] at h2
    dsimp only at h2
    cases e : sd[js[k]]? with
    | none => rw [e] at h2; cases h2
    | some s =>
      rw [e] at h2
      have qs := S.slot _ s e
      cases s with
      | own d => obtain ⟨a, a1, _⟩ := qs; exact ⟨a, js[k], _, List.getElem?_eq_getElem hkj, e, rfl, a1⟩
      | io d => obtain ⟨a, _, a1, _⟩ := qs; exact ⟨a, js[k], _, List.getElem?_eq_getElem hkj, e, rfl, a1⟩
      | no => cases h2
      | sh d => cases h2
      | bor d => cases h2
  clear hj hg hp pg
  induction ios generalizing js with
  | nil => exact ⟨[], rfl, fun k i a e => by simp at e⟩
  | cons i is ih =>
    cases js with
    | nil => simp at hl
    | cons j js =>
      obtain ⟨a, j', s, h1, h2, h3, h4⟩ := each 0 i rfl
      obtain ⟨pin, p1, p2⟩ := ih (js := js) (by simpa using hl) fun k i' hk => by
        obtain ⟨a, j, s, h1, h2⟩ := each (k + 1) i' (by simpa using hk)
        exact ⟨a, j, s, by simpa using h1, h2⟩
      refine ⟨(i, a) :: pin, by simp [p1], fun k i' a' e => ?_⟩
      cases k with
      | zero => simp at e; obtain ⟨rfl, rfl⟩ := e; exact ⟨rfl, j', s, h1, h2, h3, h4⟩
      | succ k =>
        obtain ⟨k1, j'', s', k2, k3⟩ := p2 k i' a' (by simpa using e)
        exact ⟨by simpa using k1, j'', s', by simpa using k2, k3⟩
theorem PinOk.mem {pin : List (Nat × Addr)} (P : PinOk sd σ ios js pin) {i : Nat} {a : Addr} (h : (i, a) ∈ pin) : ∃ (k j : Nat) (s : SV), ios[k]? = some i ∧ js[k]? = some j ∧ pin[k]? = some (i, a) ∧ sd[j]? = some s ∧ s.mine = true ∧ σ[j]? = some (some (V.ref a)) := by
  obtain ⟨k, hk⟩ := List.getElem?_of_mem h
  obtain ⟨h1, j, s, h2, h3, h4, h5⟩ := P.2 k i a hk
  exact ⟨k, j, s, h1, h2, hk, h3, h4, h5⟩
/-- the steady heap that the callee sees: all but what it is handed over -/
def lent (H : Hp) (pin : List (Nat × Addr)) : Hp := fun a => if (pin.map (·.2)).contains a then none else H a
theorem lent_pin {pin : List (Nat × Addr)} {i : Nat} {a : Addr} (h : (i, a) ∈ pin) : lent H pin a = none := by
  unfold lent
  rw [if_pos (List.contains_iff_mem.mpr (List.mem_map.mpr ⟨(i, a), h, rfl⟩))]
theorem lent_not {pin : List (Nat × Addr)} {a : Addr} (h : ∀ i, (i, a) ∉ pin) : lent H pin a = H a := by
  unfold lent
  rw [if_neg]
  intro hc
  obtain ⟨⟨i, b⟩, hm, e⟩ := List.mem_map.mp (List.contains_iff_mem.mp hc)
  have e : b = a := e
  subst e
  exact h i hm
theorem mine_G (S : SR W fx F G H sd σ) {j : Nat} {s : SV} {a : Addr} (e : sd[j]? = some s) (m : s.mine = true) (p : σ[j]? = some (some (V.ref a))) : G a = none ∧ ∃ d, OwnO W F H a d := by
  have q := S.slot j s e
  cases s with
  | own d => obtain ⟨b, h1, h2, h3, h4⟩ := q; rw [p] at h1; cases h1; exact ⟨h2, d, h4⟩
  | io d => obtain ⟨b, _, h1, h2, h4⟩ := q; rw [p] at h1; cases h1; exact ⟨h2, d, h4⟩
  | _ => cases m
theorem same_lent (S : SR W fx F G H sd σ) {pin : List (Nat × Addr)} (P : PinOk sd σ ios js pin) : Same G (lent H pin) := fun a o e => by
  rw [lent_not fun i hi => ?_]
  · exact S.gh a o e
  · obtain ⟨k, j, s, _, _, _, h1, h2, h3⟩ := P.mem hi
    rw [(mine_G S h1 h2 h3).1] at e
    cases e
theorem mem_ios {pin : List (Nat × Addr)} (P : PinOk sd σ ios js pin) {k i : Nat} (h : ios[k]? = some i) : ∃ a, pin[k]? = some (i, a) := by
  have hk : k < pin.length := by rw [P.1]; exact (List.getElem?_eq_some_iff.mp h).1
  obtain ⟨h1, _⟩ := P.2 k pin[k].1 pin[k].2 (List.getElem?_eq_getElem hk)
  rw [h] at h1
  cases h1
  exact ⟨pin[k].2, List.getElem?_eq_getElem hk⟩
/-- the callee's entry -/
theorem call_start (S : SR W fx F G H sd σ) (q : RVRs W fx F G H sd σ rs vs) (hp : passAll sd ios 0 rs = some svs) (hj : ioSlots rs ios = some js) (ha : apartOk rs ios js = true) {pin : List (Nat × Addr)} (P : PinOk sd σ ios js pin) :
    SR W ⟨H, F, lent H pin, pin, []⟩ F (lent H pin) H svs (vs.map some) ∧ (∀ a o, H a = some o → (∀ i, (i, a) ∉ pin) → lent H pin a = some o) ∧ (∀ i ∈ ios, ∃ d, svs[i]? = some (.io d)) := by
  obtain ⟨hl, hg⟩ := ioSlots_get hj
  obtain ⟨pl, pg⟩ := passAll_get hp
  have sl := same_lent S P
  unfold apartOk at ha
  rw [Bool.and_eq_true] at ha
  have nd : js.Nodup := of_decide_eq_true ha.1
  have ap : ∀ i j, rs[i]? = some (.slot j) → i ∉ ios → j ∉ js := fun i j hr hn hm => by
    have hi : i < rs.length := (List.getElem?_eq_some_iff.mp hr).1
    have z := List.all_eq_true.mp ha.2 i (List.mem_range.mpr hi)
    rw [hr] at z
    dsimp only at z
    have c1 : ios.contains i = false := by
      cases e : ios.contains i with
      | false => rfl
      | true => exact absurd (List.contains_iff_mem.mp e) hn
    have c2 : js.contains j = true := List.contains_iff_mem.mpr hm
    rw [c1, c2] at z
    cases z
  -- what an argument by a slot that is lent stands for
  have lentOk : ∀ i j s d a, rs[i]? = some (.slot j) → i ∉ ios → sd[j]? = some s → s.mine = true → σ[j]? = some (some (V.ref a)) → OwnO W F H a d → Rep W (lent H pin) d (.ref a) := fun i j s d a hr hn e m p ow => by
    have hna : ∀ i, (i, a) ∉ pin := fun i' hm => by
      obtain ⟨k, j', s', k1, k2, k3, k4, k5, k6⟩ := P.mem hm
      have ej := S.apart j j' s s' a e k4 m k5 p k6
      rw [← ej] at k2
      exact ap i j hr hn (List.mem_of_getElem? k2)
    exact (ow.keepH (H' := lent H pin) (lent_not hna)).rep ((S.fg.trans sl))
  refine ⟨⟨⟨Same.refl _, fun a o e => .inl e, Same.refl _, fun a o e => .inl e, S.fg.trans sl, fun a o e => ?_, fun a e => e, S.tup, fun a o hm => by simp at hm⟩, by rw [pl, q.1, List.length_map], fun i s e => ?_, fun i i' s s' a e1 e2 m1 m2 p1 p2 => ?_, fun a o hm => by simp at hm⟩, fun a o e hn => by rw [lent_not hn]; exact e, fun i hi => ?_⟩
  · unfold lent at e
    split at e
    · cases e
    · exact e
  · obtain ⟨r, h1, h2⟩ := pg i s e
    rw [Nat.zero_add] at h2
    have hiv : i < vs.length := by rw [← q.1]; exact (List.getElem?_eq_some_iff.mp h1).1
    have hv : (vs.map some)[i]? = some (some vs[i]) := by rw [List.getElem?_map, List.getElem?_eq_getElem hiv]; rfl
    have qr := q.2 i r vs[i] h1 (List.getElem?_eq_getElem hiv)
    unfold passOne at h2
    by_cases hc : ios.contains i = true
    · rw [if_pos hc] at h2
      cases r with
      | slot j =>
        dsimp only at h2
        have qr : σ[j]? = some (some vs[i]) := qr
        have hm := List.contains_iff_mem.mp hc
        obtain ⟨k, hk⟩ := List.getElem?_of_mem hm
        obtain ⟨a, ha'⟩ := mem_ios P hk
        obtain ⟨_, j', s', k1, k2, k3, k4⟩ := P.2 k i a ha'
        have ej := hg k i j' hk k1
        rw [h1] at ej
        cases ej
        rw [qr] at k4
        have ea : vs[i] = V.ref a := Option.some.inj (Option.some.inj k4)
        have hm' : (i, a) ∈ pin := List.mem_of_getElem? ha'
        cases e2 : sd[j]? with
        | none => rw [e2] at h2; cases h2
        | some t =>
          rw [e2] at h2
          have qs := S.slot j t e2
          cases t with
          | own d =>
            cases h2
            obtain ⟨b, b1, b2, b3, b4⟩ := qs
            rw [qr, ea] at b1; cases b1
            exact ⟨a, hm', by rw [hv, ea], lent_pin hm', b4⟩
          | io d =>
            cases h2
            obtain ⟨b, b0, b1, b2, b4⟩ := qs
            rw [qr, ea] at b1; cases b1
            exact ⟨a, hm', by rw [hv, ea], lent_pin hm', b4⟩
          | no => cases h2
          | sh d => cases h2
          | bor d => cases h2
      | val d => cases h2
      | bval d => cases h2
      | fresh d => cases h2
    · rw [if_neg hc] at h2
      have hn : i ∉ ios := fun hm => hc (List.contains_iff_mem.mpr hm)
      cases r with
      | val d => cases h2; exact ⟨_, hv, qr⟩
      | fresh d => cases h2; exact ⟨_, hv, qr⟩
      | bval d =>
        cases h2
        split
        · rename_i him; exact ⟨_, hv, Rep.imm S.tup (Rep.keep S.gh qr) him⟩
        · exact ⟨_, hv, Rep.keep sl qr⟩
      | slot j =>
        dsimp only at h2
        have qr : σ[j]? = some (some vs[i]) := qr
        cases e2 : sd[j]? with
        | none => rw [e2] at h2; cases h2
        | some t =>
          rw [e2] at h2
          have qs := S.slot j t e2
          cases t with
          | own d =>
            cases h2
            obtain ⟨b, b1, b2, b3, b4⟩ := qs
            rw [qr] at b1
            have ea : vs[i] = V.ref b := Option.some.inj (Option.some.inj b1)
            exact ⟨_, hv, by rw [ea]; exact lentOk i j _ d b h1 hn e2 rfl (by rw [qr, ea]) b4⟩
          | io d =>
            cases h2
            obtain ⟨b, b0, b1, b2, b4⟩ := qs
            rw [qr] at b1
            have ea : vs[i] = V.ref b := Option.some.inj (Option.some.inj b1)
            exact ⟨_, hv, by rw [ea]; exact lentOk i j _ d b h1 hn e2 rfl (by rw [qr, ea]) b4⟩
          | sh d => cases h2; obtain ⟨w, w1, w2⟩ := qs; rw [qr] at w1; cases w1; exact ⟨_, hv, w2⟩
          | bor d => cases h2; obtain ⟨w, w1, w2⟩ := qs; rw [qr] at w1; cases w1; exact ⟨_, hv, w2.keep sl⟩
          | no => cases h2
  · -- two parameters at one address
    have isIo : ∀ {i : Nat} {s : SV}, svs[i]? = some s → s.mine = true → (vs.map some)[i]? = some (some (V.ref a)) → ∃ j t, rs[i]? = some (.slot j) ∧ i ∈ ios ∧ σ[j]? = some (some (V.ref a)) ∧ sd[j]? = some t ∧ t.mine = true := fun {i s} e m p => by
      obtain ⟨r, h1, h2⟩ := pg i s e
      rw [Nat.zero_add] at h2
      have hiv : i < vs.length := by rw [← q.1]; exact (List.getElem?_eq_some_iff.mp h1).1
      rw [List.getElem?_map, List.getElem?_eq_getElem hiv] at p
      have ev : vs[i] = V.ref a := Option.some.inj (Option.some.inj p)
      have qr := q.2 i r vs[i] h1 (List.getElem?_eq_getElem hiv)
      unfold passOne at h2
      by_cases hc : ios.contains i = true
      · rw [if_pos hc] at h2
        cases r with
        | slot j =>
          have qr : σ[j]? = some (some vs[i]) := qr
          dsimp only at h2
          cases e2 : sd[j]? with
          | none => rw [e2] at h2; cases h2
          | some t =>
            rw [e2] at h2
            cases t with
            | own d => exact ⟨j, _, h1, List.contains_iff_mem.mp hc, by rw [qr, ev], e2, rfl⟩
            | io d => exact ⟨j, _, h1, List.contains_iff_mem.mp hc, by rw [qr, ev], e2, rfl⟩
            | no => cases h2
            | sh d => cases h2
            | bor d => cases h2
        | val d => cases h2
        | bval d => cases h2
        | fresh d => cases h2
      · rw [if_neg hc] at h2
        exfalso
        cases r with
        | val d => cases h2; cases m
        | fresh d => cases h2; cases m
        | bval d => cases h2; revert m; split <;> (intro m; cases m)
        | slot j =>
          dsimp only at h2
          cases e2 : sd[j]? with
          | none => rw [e2] at h2; cases h2
          | some t => rw [e2] at h2; cases t <;> (cases h2 <;> cases m)
    obtain ⟨j1, t1, a1, a2, a3, a4, a5⟩ := isIo e1 m1 p1
    obtain ⟨j2, t2, b1, b2, b3, b4, b5⟩ := isIo e2 m2 p2
    have ej := S.apart j1 j2 t1 t2 a a4 b4 a5 b5 a3 b3
    subst ej
    -- the places in ios are the same
    obtain ⟨k1, hk1⟩ := List.getElem?_of_mem a2
    obtain ⟨k2, hk2⟩ := List.getElem?_of_mem b2
    have l1 : k1 < js.length := by rw [hl]; exact (List.getElem?_eq_some_iff.mp hk1).1
    have l2 : k2 < js.length := by rw [hl]; exact (List.getElem?_eq_some_iff.mp hk2).1
    have g1 := hg k1 i _ hk1 (List.getElem?_eq_getElem l1)
    have g2 := hg k2 i' _ hk2 (List.getElem?_eq_getElem l2)
    rw [a1] at g1
    rw [b1] at g2
    have e1' : js[k1] = js[k2] := by
      have z1 := RV.slot.inj (Option.some.inj g1)
      have z2 := RV.slot.inj (Option.some.inj g2)
      exact z1.symm.trans z2
    have := (List.getElem_inj nd).mp e1'
    subst this
    rw [hk1] at hk2
    cases hk2
    rfl
  · obtain ⟨k, hk⟩ := List.getElem?_of_mem hi
    have l1 : k < js.length := by rw [hl]; exact (List.getElem?_eq_some_iff.mp hk).1
    have g1 := hg k i _ hk (List.getElem?_eq_getElem l1)
    have hi' : i < svs.length := by rw [pl]; exact (List.getElem?_eq_some_iff.mp g1).1
    obtain ⟨r, h1, h2⟩ := pg i svs[i] (List.getElem?_eq_getElem hi')
    rw [g1] at h1; cases h1
    rw [Nat.zero_add] at h2
    unfold passOne at h2
    rw [if_pos (List.contains_iff_mem.mpr hi)] at h2
    dsimp only at h2
    cases e2 : sd[js[k]]? with
    | none => rw [e2] at h2; cases h2
    | some t =>
      rw [e2] at h2
      cases t with
      | own d => exact ⟨d, by rw [List.getElem?_eq_getElem hi']; exact h2.symm⟩
      | io d => exact ⟨d, by rw [List.getElem?_eq_getElem hi']; exact h2.symm⟩
      | no => cases h2
      | sh d => cases h2
      | bor d => cases h2
end
end Av

/-! behind a call; the rule -/
namespace Av
open PySem L2
section
variable {fx : Fx} {W : Wd} {F G H F' G' H' : Hp} {sd : List SV} {σ : L2.St} {rs : List RV} {vs : List V} {ios js : List Nat} {svs : List SV} {pin : List (Nat × Addr)} {outs : List D}
/-- the caller's steady heap behind the call -/
def joinG (G F' : Hp) : Hp := fun a => match G a with
  | some o => some o
  | none => F' a
theorem joinG_of {a : Addr} {o : HO} (h : G a = some o) : joinG G F' a = some o := by unfold joinG; rw [h]
theorem joinG_none {a : Addr} (h : G a = none) : joinG G F' a = F' a := by unfold joinG; rw [h]
theorem call_end (S : SR W fx F G H sd σ) (hj : ioSlots rs ios = some js) (ha : apartOk rs ios js = true) (P : PinOk sd σ ios js pin) (nd' : ios.Nodup) (h : HR ⟨H, F, lent H pin, pin, []⟩ F' G' H') (ho : OutsR W F' G' H' pin ios outs) :
    SR W fx F' (joinG G F') H' (wb (js.zip outs) 0 sd) σ ∧ Same F F' ∧ Same G (joinG G F') ∧ ∀ a, G' a = none → H a = none → joinG G F' a = none ∧ ∀ (j : Nat) (s : SV), (wb (js.zip outs) 0 sd)[j]? = some s → s.mine = true → σ[j]? ≠ some (some (V.ref a)) := by
  obtain ⟨hl, hg⟩ := ioSlots_get hj
  have sl := same_lent S P
  unfold apartOk at ha
  rw [Bool.and_eq_true] at ha
  have nd : js.Nodup := of_decide_eq_true ha.1
  have sG : Same G G' := sl.trans h.gg
  -- what the steady heap holds is in H'
  have jg : Same (joinG G F') G' := fun a o e => by
    cases eg : G a with
    | some o' => rw [joinG_of eg] at e; cases e; exact sG a _ eg
    | none => rw [joinG_none eg] at e; exact h.fg a o e
  have fj : Same F' (joinG G F') := fun a o e => by
    cases eg : G a with
    | some o' =>
      rw [joinG_of eg]
      have := sG a _ eg
      rw [h.fg a o e] at this
      exact this.symm
    | none => rw [joinG_none eg]; exact e
  have gj : Same G (joinG G F') := fun a o e => joinG_of e
  -- an own object of the caller is in neither
  have ownNone : ∀ a o, G a = none → H a = some o → joinG G F' a = none := fun a o e1 e2 => by
    rw [joinG_none e1]
    cases ef : F' a with
    | none => rfl
    | some o' =>
      rcases h.fn a o' ef with z | z
      · exact absurd (S.fg a o' z) (by rw [e1]; simp)
      · rw [show H a = none from z] at e2; cases e2
  have base : HR fx F' (joinG G F') H' := by
    refine ⟨S.ff.trans h.ff, fun a o e => ?_, S.gg.trans gj, fun a o e => ?_, fj, jg.trans h.gh, fun a e => S.dom a (h.dom a e), h.tup, fun a o hm => ?_⟩
    · rcases h.fn a o e with z | z
      · exact S.fn a o z
      · exact .inr (S.dom a z)
    · cases eg : G a with
      | some o' => rw [joinG_of eg] at e; cases e; exact S.gn a _ eg
      | none =>
        rw [joinG_none eg] at e
        rcases h.fn a o e with z | z
        · exact absurd (S.fg a o z) (by rw [eg]; simp)
        · exact .inr (S.dom a z)
    · obtain ⟨h1, h2, h3⟩ := S.held a o hm
      have hna : ∀ i, (i, a) ∉ pin := fun i' hp => by
        obtain ⟨k, j', s', k1, k2, k3, k4, k5, k6⟩ := P.mem hp
        exact S.free a o hm j' s' k4 k5 k6
      have hl' : lent H pin a = some o := by rw [lent_not hna]; exact h1
      exact ⟨h.gh a o (h.gg a o hl'), ownNone a o h2 h1, h3⟩
  -- which slots were handed over
  have look : ∀ j d, (js.zip outs).lookup j = some d → ∃ k : Nat, js[k]? = some j ∧ outs[k]? = some d := by
    have gen : ∀ (js : List Nat) (outs : List D) j d, (js.zip outs).lookup j = some d → ∃ k : Nat, js[k]? = some j ∧ outs[k]? = some d := fun js => by
      induction js with
      | nil => intro outs j d e; simp at e
      | cons x js ih =>
        intro outs j d e
        cases outs with
        | nil => simp at e
        | cons y outs =>
          rw [List.zip_cons_cons, List.lookup_cons] at e
          by_cases hx : j = x
          · subst hx
            simp at e
            subst e
            exact ⟨0, rfl, rfl⟩
          · have hb : (j == x) = false := beq_eq_false_iff_ne.mpr hx
            rw [hb] at e
            obtain ⟨k, h1, h2⟩ := ih outs j d e
            exact ⟨k + 1, by simpa using h1, by simpa using h2⟩
    exact gen js outs
  have look2 : ∀ j, j ∈ js → ∃ d, (js.zip outs).lookup j = some d := by
    have gen : ∀ (js : List Nat) (outs : List D) j, js.length = outs.length → j ∈ js → ∃ d, (js.zip outs).lookup j = some d := fun js => by
      induction js with
      | nil => intro outs j _ hm; simp at hm
      | cons x js ih =>
        intro outs j hl hm
        cases outs with
        | nil => simp at hl
        | cons y outs =>
          rw [List.zip_cons_cons, List.lookup_cons]
          by_cases hx : j = x
          · subst hx; exact ⟨y, by simp⟩
          · have hb : (j == x) = false := beq_eq_false_iff_ne.mpr hx
            rw [hb]
            rcases List.mem_cons.mp hm with z | z
            · exact absurd z hx
            · exact ih outs j (by simpa using hl) z
    exact fun j hm => gen js outs j (by rw [hl, ho.1]) hm
  -- a slot that was not handed over keeps its object
  have keepOwn : ∀ j s a, sd[j]? = some s → s.mine = true → σ[j]? = some (some (V.ref a)) → j ∉ js → H' a = H a ∧ joinG G F' a = none := fun j s a e m p hn => by
    obtain ⟨g0, d, ow⟩ := mine_G S e m p
    obtain ⟨o, eo, _⟩ := ow.there
    have hna : ∀ i, (i, a) ∉ pin := fun i' hm => by
      obtain ⟨k, j', s', k1, k2, k3, k4, k5, k6⟩ := P.mem hm
      have ej := S.apart j j' s s' a e k4 m k5 p k6
      rw [← ej] at k2
      exact hn (List.mem_of_getElem? k2)
    have : lent H pin a = some o := by rw [lent_not hna]; exact eo
    exact ⟨by rw [h.gh a o (h.gg a o this), eo], ownNone a o g0 eo⟩
  -- one that was has the new content
  have newOwn : ∀ j s a d, sd[j]? = some s → s.mine = true → σ[j]? = some (some (V.ref a)) → (js.zip outs).lookup j = some d → OwnO W F' H' a d ∧ joinG G F' a = none := fun j s a d e m p hd => by
    obtain ⟨g0, d0, ow⟩ := mine_G S e m p
    obtain ⟨o, eo, _⟩ := ow.there
    obtain ⟨k, k1, k2⟩ := look j d hd
    have hk : k < ios.length := by rw [← hl]; exact (List.getElem?_eq_some_iff.mp k1).1
    obtain ⟨b, hb⟩ := mem_ios P (List.getElem?_eq_getElem hk)
    obtain ⟨c, c1, c2, c3⟩ := ho.2 k ios[k] d (List.getElem?_eq_getElem hk) k2
    obtain ⟨k', j', s', q1, q2, q3, q4, q5, q6⟩ := P.mem c1
    have ek : k' = k := by
      have l1 : k' < ios.length := (List.getElem?_eq_some_iff.mp q1).1
      have := (List.getElem?_eq_some_iff.mp q1).2
      exact (List.getElem_inj nd').mp (by rw [this])
    subst ek
    rw [k1] at q2
    cases q2
    rw [p] at q6
    cases q6
    exact ⟨c3, ownNone a o g0 eo⟩
  have wbget : ∀ j s', (wb (js.zip outs) 0 sd)[j]? = some s' → ∃ s, sd[j]? = some s ∧ s' = updSV (js.zip outs) j s := fun j s' e => by
    rw [wb_get, Nat.zero_add] at e
    cases e2 : sd[j]? with
    | none => rw [e2] at e; cases e
    | some s => rw [e2] at e; cases e; exact ⟨s, rfl, rfl⟩
  have wbmine : ∀ (j : Nat) (s' : SV), (wb (js.zip outs) 0 sd)[j]? = some s' → s'.mine = true → ∃ s : SV, sd[j]? = some s ∧ s.mine = true := fun j s' e m => by
    obtain ⟨s, e1, e2⟩ := wbget j s' e
    refine ⟨s, e1, ?_⟩
    subst e2
    unfold updSV at m
    cases el : (js.zip outs).lookup j with
    | none => rw [el] at m; exact m
    | some d => rw [el] at m; cases s <;> first | rfl | exact m
  refine ⟨⟨base, by rw [wb_len]; exact S.len, fun j s' e => ?_, fun i j s s' a e1 e2 m1 m2 p1 p2 => ?_, fun a o hm j s' e m p => ?_⟩, h.ff, gj, fun a e1 e2 => ⟨?_, fun j s e m p => ?_⟩⟩
  · obtain ⟨s, e1, rfl⟩ := wbget j s' e
    have qs := S.slot j s e1
    unfold updSV
    cases el : (js.zip outs).lookup j with
    | none =>
      have hn : j ∉ js := fun hm => by
        obtain ⟨d, hd⟩ := look2 j hm
        rw [el] at hd; cases hd
      exact qs.keep h.ff gj fun b p1 m _ _ => keepOwn j s b e1 m p1 hn
    | some d =>
      cases s with
      | no => exact qs
      | sh d0 => obtain ⟨w, w1, w2⟩ := qs; exact ⟨w, w1, w2.keep h.ff⟩
      | bor d0 => obtain ⟨w, w1, w2⟩ := qs; exact ⟨w, w1, w2.keep gj⟩
      | own d0 =>
        obtain ⟨a, a1, a2, a3, a4⟩ := qs
        obtain ⟨n1, n2⟩ := newOwn j _ a d e1 rfl a1 el
        exact ⟨a, a1, n2, a3, n1⟩
      | io d0 =>
        obtain ⟨a, a0, a1, a2, a4⟩ := qs
        obtain ⟨n1, n2⟩ := newOwn j _ a d e1 rfl a1 el
        exact ⟨a, a0, a1, n2, n1⟩
  · obtain ⟨t1, f1, n1⟩ := wbmine i s e1 m1
    obtain ⟨t2, f2, n2⟩ := wbmine j s' e2 m2
    exact S.apart i j t1 t2 a f1 f2 n1 n2 p1 p2
  · obtain ⟨t1, f1, n1⟩ := wbmine j s' e m
    exact S.free a o hm j t1 f1 n1 p
  · have eg : G a = none := by
      cases z : G a with
      | none => rfl
      | some o => rw [S.gh a o z] at e2; cases e2
    rw [joinG_none eg]
    cases z : F' a with
    | none => rfl
    | some o => rw [h.fg a o z] at e1; cases e1
  · obtain ⟨t, f, n⟩ := wbmine j s e m
    obtain ⟨_, d, ow⟩ := mine_G S f n p
    obtain ⟨o, eo, _⟩ := ow.there
    rw [e2] at eo; cases eo
end
section
variable {fx : Fx} {X : Cx} {Wx : WX} {e a b c : Expr} {pos : Pos}
/-- the wish at a call, by the caller's slots -/
theorem pass_at {W : WX} (tk : Takes X W) (σ : L2.St) : PassesAt (L2.CX X.prog X.w) X σ (WE W σ) := passAt tk σ
theorem call_in {ios : List Nat} {mf : MF} {ma : M (List RV)} {t : TA} (q : ∀ F G H sd σ Q, SR (wd X) fx F G H sd σ → Po (wd X) fx F G σ Wx (fun F G H sd rs vs => RVRs (wd X) fx F G H sd σ rs vs) Q (ma sd) → t σ H Q) (nd : ios.Nodup)
    {F G H : Hp} {sd : List SV} {σ : L2.St} {Q : VK} (S : SR (wd X) fx F G H sd σ) (h : Po (wd X) fx F G σ Wx (RlE (wd X) fx σ) Q (mCall ios mf ma sd)) : t σ H fun vs H1 => spD (wd X) ios mf vs H1 Q (WE Wx σ) := by
  refine args q S h fun F1 G1 H1 sd1 rs vs e1 e2 S1 r1 h => ?_
  cases e3 : passAll sd1 ios 0 rs with
  | none => rw [e3] at h; exact h.elim
  | some svs =>
    cases e4 : ioSlots rs ios with
    | none => rw [e3, e4] at h; exact h.elim
    | some js =>
      rw [e3, e4] at h
      dsimp only at h
      split at h
      · rename_i ap
        obtain ⟨pin, P⟩ := pins_there S1 r1 e3 e4
        obtain ⟨k1, k2, k3⟩ := call_start S1 r1 e3 e4 ap P
        refine ⟨F1, lent H1 pin, pin, svs, k1, k2, k3, ?_⟩
        cases em : mf svs with
        | fail => rw [em] at h; exact h.elim
        | ok r outs =>
          rw [em] at h
          intro v F2 G2 H2 hr rr ho
          obtain ⟨S2, f1, f2, f3⟩ := call_end S1 e4 ap P nd hr ho
          refine h F2 (joinG G1 F2) H2 v f1 f2 S2 ?_
          cases r with
          | val d => exact rr
          | fresh d =>
            obtain ⟨a, rfl, b1, b2, b3⟩ := rr
            obtain ⟨c1, c2⟩ := f3 a b1 b2
            exact ⟨a, rfl, c1, S1.dom a b2, b3, c2, fun o hm => by rw [(S1.held a o hm).1] at b2; cases b2⟩
          | bval d => exact rr.elim
          | slot i => exact rr.elim
        | exc x outs =>
          rw [em] at h
          intro c d F2 G2 H2 hr rr ho
          obtain ⟨S2, f1, f2, f3⟩ := call_end S1 e4 ap P nd hr ho
          exact h F2 (joinG G1 F2) H2 c d f1 f2 S2 rr
      · exact h.elim
theorem se_call {k : Nat} {f : Addr} {fd : FuncData} {ps : List Str} {ios : List Nat} {mf : MF} {x : Str} {p : Pos} {es : List Expr} {ma : M (List RV)} (Fk : FnOk X.prog X.w X.K X.mg X.base (L2.CX X.prog X.w) k f fd ps (spD (wd X) ios mf)) (tk : Takes X Wx) (hr : Room k X.A) (hg : Gl X x) (hm : X.mg x = some (.ref f)) (hk : PySem.W.keepIn X.K (.ref f) = true) (hb : Binds X.K fd ps [])
    (ha : SA fx X Wx (e :: es) ma) (nd : ios.Nodup := by decide) (hdb : (x == ("__debug__" : Str)) = false := by decide) (he : starEach (e :: es) X.env = (false, eval e X.env) :: starEach es X.env := by rfl) (hpl : (backTo pos (starEach es X.env)).any (·.1) = false := by rfl) :
    SE fx X Wx (.Call (.Name x p) (e :: es) [] pos) (mCall ios mf ma) := by
  obtain ⟨t, pt, q⟩ := ha.ex
  exact ⟨_, pe_callS Fk hr hg hm hk hb (fun σ => pass_at tk σ) pt hdb he hpl, fun F G H sd σ Q S h => call_in q nd S h⟩
end
end Av

/-! list comprehensions -/
namespace Av
open PySem L2
/-- one rule for every block -/
structure SEb (X : Cx) (scope : Scope) (e : Expr) (m : M RV) : Prop where
  ex : ∃ t : TE, (∀ s H C cl fp, PE (X.blk s H scope (compEnvC scope cl C X.env) fp) e t) ∧ ∀ fx F G H sd σ Q, SR (wd X) fx F G H sd σ → Po (wd X) fx F G σ (fun _ _ _ _ => False) (RlE (wd X) fx σ) Q (m sd) → t σ H Q
structure STb (X : Cx) (scope : Scope) (es : List Expr) (m : M Bool) : Prop where
  ex : ∃ t : TT, (∀ s H C cl fp, PTs (X.blk s H scope (compEnvC scope cl C X.env) fp) es t) ∧ ∀ fx F G H sd σ Q, SR (wd X) fx F G H sd σ → Po (wd X) fx F G σ (fun _ _ _ _ => False) RlT Q (m sd) → t σ H Q
structure SGb (X : Cx) (scope : Scope) (tg : Expr) (sl : List Nat) (g : MG) : Prop where
  ex : ∃ t : TG, (∀ s H C cl fp, PG (X.blk s H scope (compEnvC scope cl C X.env) fp) tg t) ∧ ∀ fx F G H sd sd' σ rv v (Q : L2.St → Hp → Prop), SR (wd X) fx F G H sd σ → RVR (wd X) fx F G H sd σ rv v → g rv sd = some sd' →
    (∀ F' G' H' σ', Same F F' → Same G G' → SR (wd X) fx F' G' H' sd' σ' → Off sl σ σ' → Q σ' H') → t v σ H Q
structure SIb (X : Cx) (scope : Scope) (tg iter : Expr) (m : M (List RV)) : Prop where
  ex : ∃ wi : TI, (∀ s H C cl fp, PI (X.blk s H scope (compEnvC scope cl C X.env) fp) tg iter wi) ∧ ∀ fx F G H sd σ Rj, SR (wd X) fx F G H sd σ → PoI (wd X) fx F G σ (fun _ _ _ _ => False) Rj (m sd) → wi σ H Rj
section
variable {X : Cx} {scope : Scope} {e tg iter : Expr} {m : M RV}
theorem SEb.of (h : ∀ fx s H C cl fp, SE fx (X.blk s H scope (compEnvC scope cl C X.env) fp) (fun _ _ _ _ => False) e m) : SEb X scope e m := by
  have c := fun fx s H C cl fp => Classical.choose_spec (h fx s H C cl fp).ex
  refine ⟨fun σ Hh Q => ∃ fx, ∀ s H C cl fp, Classical.choose (h fx s H C cl fp).ex σ Hh Q, fun s H C cl fp => ⟨fun pins s' σ H' Q I q => ?_⟩, fun fx F G H sd σ Q S p => ⟨fx, fun s H' C cl fp => ?_⟩⟩
  · obtain ⟨fx, q⟩ := q
    exact (c fx s H C cl fp).1.run pins s' σ H' Q I (q s H C cl fp)
  · exact (c fx s H' C cl fp).2 F G H sd σ Q S p
theorem STb.nil : STb X scope [] (mPure true) := ⟨_, fun _ _ _ _ _ => pts_nil, fun fx F G H sd σ Q S p => p F G H true (Same.refl _) (Same.refl _) S rfl⟩
theorem STb.one {m : M Bool} (h : ∀ fx s H C cl fp, ST fx (X.blk s H scope (compEnvC scope cl C X.env) fp) (fun _ _ _ _ => False) e m) : STb X scope [e] m := by
  have c := fun fx s H C cl fp => Classical.choose_spec (h fx s H C cl fp).ex
  refine ⟨fun σ Hh Q => ∃ fx, ∀ s H C cl fp, Classical.choose (h fx s H C cl fp).ex σ Hh Q, fun s H C cl fp => pts_one ⟨fun pins s' σ H' Q I q => ?_⟩, fun fx F G H sd σ Q S p => ⟨fx, fun s H' C cl fp => ?_⟩⟩
  · obtain ⟨fx, q⟩ := q
    exact (c fx s H C cl fp).1.run pins s' σ H' Q I (q s H C cl fp)
  · exact (c fx s H' C cl fp).2 F G H sd σ Q S p
theorem SGb.of {sl : List Nat} {g : MG} (h : ∀ fx s H C cl fp, SG fx (X.blk s H scope (compEnvC scope cl C X.env) fp) tg sl g) : SGb X scope tg sl g := by
  have c := fun fx s H C cl fp => Classical.choose_spec (h fx s H C cl fp).ex
  refine ⟨fun v σ Hh Q => ∃ fx, ∀ s H C cl fp, Classical.choose (h fx s H C cl fp).ex v σ Hh Q, fun s H C cl fp => ⟨fun pins s' σ H' v u Q I r q => ?_⟩, fun fx F G H sd sd' σ rv v Q S r eg k => ⟨fx, fun s H' C cl fp => ?_⟩⟩
  · obtain ⟨fx, q⟩ := q
    exact (c fx s H C cl fp).1.run pins s' σ H' v u Q I r (q s H C cl fp)
  · exact (c fx s H' C cl fp).2 F G H sd sd' σ rv v Q S r eg k
theorem SIb.of {m : M (List RV)} (h : ∀ fx s H C cl fp, SI fx (X.blk s H scope (compEnvC scope cl C X.env) fp) (fun _ _ _ _ => False) tg iter m) : SIb X scope tg iter m := by
  have c := fun fx s H C cl fp => Classical.choose_spec (h fx s H C cl fp).ex
  refine ⟨fun σ Hh Q => ∃ fx, ∀ s H C cl fp, Classical.choose (h fx s H C cl fp).ex σ Hh Q, fun s H C cl fp => ⟨fun pins s' σ H' Q I q => ?_⟩, fun fx F G H sd σ Q S p => ⟨fx, fun s H' C cl fp => ?_⟩⟩
  · obtain ⟨fx, q⟩ := q
    exact (c fx s H C cl fp).1.run pins s' σ H' Q I (q s H C cl fp)
  · exact (c fx s H' C cl fp).2 F G H sd σ Q S p
end

/-! ### the block's own slots -/
def wipeS (sd : List SV) : List Nat → List SV
  | [] => sd
  | v :: vs => (wipeS sd vs).set v .no
theorem wipeS_len (sd : List SV) : ∀ vs, (wipeS sd vs).length = sd.length
  | [] => rfl
  | v :: vs => by rw [wipeS, List.length_set, wipeS_len sd vs]
theorem wipeS_get {sd : List SV} {i : Nat} {s : SV} : ∀ {vs : List Nat}, (wipeS sd vs)[i]? = some s → s = .no ∨ (sd[i]? = some s ∧ i ∉ vs)
  | [], h => .inr ⟨h, by simp⟩
  | v :: vs, h => by
    rw [wipeS, List.getElem?_set] at h
    by_cases hi : v = i
    · subst hi
      rw [if_pos rfl] at h
      split at h
      · cases h; exact .inl rfl
      · cases h
    · rw [if_neg hi] at h
      rcases wipeS_get h with z | ⟨z1, z2⟩
      · exact .inl z
      · exact .inr ⟨z1, by simp only [List.mem_cons, not_or]; exact ⟨fun e => hi e.symm, z2⟩⟩
theorem wipe_get {σ : L2.St} {i : Nat} : ∀ {vs : List Nat}, i ∉ vs → (wipe σ vs)[i]? = σ[i]?
  | [], _ => rfl
  | v :: vs, h => by
    simp only [List.mem_cons, not_or] at h
    rw [wipe, List.getElem?_set, if_neg (fun z => h.1 z.symm)]
    exact wipe_get h.2
/-- what stands outside the block's own slots is all that counts -/
theorem SR.wiped {W : Wd} {fx : Fx} {F G H : Hp} {sd : List SV} {σ σ' : L2.St} {vs : List Nat} (S : SR W fx F G H sd σ) (hl : σ'.length = σ.length) (h : ∀ i, i ∉ vs → σ'[i]? = σ[i]?) : SR W fx F G H (wipeS sd vs) σ' where
  toHR := S.toHR
  len := by rw [wipeS_len, S.len, hl]
  slot := fun i s e => by
    rcases wipeS_get e with rfl | ⟨e1, e2⟩
    · exact True.intro
    · have q := S.slot i s e1
      have es := h i e2
      cases s with
      | no => exact q
      | sh d => obtain ⟨w, h1, h2⟩ := q; exact ⟨w, es.trans h1, h2⟩
      | bor d => obtain ⟨w, h1, h2⟩ := q; exact ⟨w, es.trans h1, h2⟩
      | own d => obtain ⟨w, h1, h2⟩ := q; exact ⟨w, es.trans h1, h2⟩
      | io d => obtain ⟨w, h0, h1, h2⟩ := q; exact ⟨w, h0, es.trans h1, h2⟩
  apart := fun i j s s' a e1 e2 m1 m2 p1 p2 => by
    rcases wipeS_get e1 with rfl | ⟨k1, k2⟩
    · cases m1
    rcases wipeS_get e2 with rfl | ⟨k3, k4⟩
    · cases m2
    exact S.apart i j s s' a k1 k3 m1 m2 ((h i k2).symm.trans p1) ((h j k4).symm.trans p2)
  free := fun a o hm i s e m p => by
    rcases wipeS_get e with rfl | ⟨k1, k2⟩
    · cases m
    exact S.free a o hm i s k1 m ((h i k2).symm.trans p)
theorem wipe_eq {σ σ' : L2.St} {vs : List Nat} (hl : σ'.length = σ.length) (h : ∀ i, i ∉ vs → σ'[i]? = σ[i]?) : wipe σ' vs = wipe σ vs := by
  apply List.ext_getElem?
  intro i
  by_cases hi : i ∈ vs
  · have gen : ∀ (σ : L2.St) (vs : List Nat), i ∈ vs → (wipe σ vs)[i]? = if i < σ.length then some none else none := fun σ vs => by
      induction vs with
      | nil => intro hm; simp at hm
      | cons v vs ih =>
        intro hm
        rw [wipe, List.getElem?_set, wipe_length]
        by_cases hv : v = i
        · subst hv; rw [if_pos rfl]
        · rw [if_neg hv]
          rcases List.mem_cons.mp hm with z | z
          · exact absurd z.symm hv
          · exact ih z
    rw [gen σ' vs hi, gen σ vs hi, hl]
  · rw [wipe_get hi, wipe_get hi]
    exact h i hi

/-! ### an object that is held aside -/
abbrev Fx.with (fx : Fx) (D : Addr) (o : HO) : Fx := { fx with hold := (D, o) :: fx.hold }
theorem SR.unhold {W : Wd} {fx : Fx} {F G H : Hp} {sd : List SV} {σ : L2.St} {D : Addr} {o : HO} (S : SR W (fx.with D o) F G H sd σ) : SR W fx F G H sd σ where
  ff := S.ff
  fn := S.fn
  gg := S.gg
  gn := S.gn
  fg := S.fg
  gh := S.gh
  dom := S.dom
  tup := S.tup
  held := fun a o h => S.held a o (List.mem_cons_of_mem _ h)
  len := S.len
  slot := fun i s e => by
    have q := S.slot i s e
    cases s <;> exact q
  apart := S.apart
  free := fun a o h => S.free a o (List.mem_cons_of_mem _ h)
theorem SR.holdNew {W : Wd} {fx : Fx} {F G H : Hp} {sd : List SV} {σ : L2.St} {D : Addr} {xs : List V} (S : SR W fx F G H sd σ) (h : H D = none) : SR W (fx.with D (.lst xs)) F G (upd H D (.lst xs)) sd σ := by
  have S' := S.newOwn (o := .lst xs) h (fun _ z => by cases z) (fun _ _ z => by cases z)
  refine ⟨⟨S'.ff, S'.fn, S'.gg, S'.gn, S'.fg, S'.gh, S'.dom, S'.tup, fun a o hm => ?_⟩, S'.len, fun i s e => ?_, S'.apart, fun a o hm => ?_⟩
  · rcases List.mem_cons.mp hm with z | z
    · cases z; exact ⟨upd_same, S.freeG h, S.dom _ h⟩
    · exact S'.held a o z
  · have q := S'.slot i s e
    cases s <;> exact q
  · rcases List.mem_cons.mp hm with z | z
    · cases z
      intro i s e m p
      obtain ⟨_, d, ow⟩ := mine_G S e m p
      obtain ⟨u, eu, _⟩ := ow.there
      rw [h] at eu; cases eu
    · exact S'.free a o z
theorem SR.holdSet {W : Wd} {fx : Fx} {F G H : Hp} {sd : List SV} {σ : L2.St} {D : Addr} {xs ys : List V} (S : SR W (fx.with D (.lst xs)) F G H sd σ) (nd : ∀ o, (D, o) ∉ fx.hold) : SR W (fx.with D (.lst ys)) F G (upd H D (.lst ys)) sd σ := by
  obtain ⟨h1, h2, h3⟩ := S.held D (.lst xs) List.mem_cons_self
  have fr := S.free D (.lst xs) List.mem_cons_self
  refine ⟨⟨S.ff, S.fn, S.gg, S.gn, S.fg, fun b o e => ?_, fun b e => ?_, fun b zs r => ?_, fun a o hm => ?_⟩, S.len, fun i s e => ?_, S.apart, fun a o hm => ?_⟩
  · rw [upd_ne (ne_of_none e h2)]; exact S.gh b o e
  · by_cases hb : b = D
    · subst hb; rw [upd_same] at e; cases e
    · rw [upd_ne hb] at e; exact S.dom b e
  · by_cases hb : b = D
    · subst hb
      rcases r with r | ⟨ob, r⟩
      · rw [upd_same] at r; cases r
      · rw [upd_same] at r; cases r
    · rw [upd_ne hb]
      exact S.tup b zs (by
        rcases r with r | ⟨ob, r⟩
        · rw [upd_ne hb] at r; exact .inl r
        · rw [upd_ne hb] at r; exact .inr ⟨ob, r⟩)
  · rcases List.mem_cons.mp hm with z | z
    · cases z; exact ⟨upd_same, h2, h3⟩
    · obtain ⟨k1, k2, k3⟩ := S.held a o (List.mem_cons_of_mem _ z)
      have hb : a ≠ D := fun e => by subst e; exact nd o z
      exact ⟨by rw [upd_ne hb]; exact k1, k2, k3⟩
  · have q := (S.slot i s e).keep (H' := upd H D (.lst ys)) (Same.refl _) (Same.refl _) fun b p m g _ => ⟨upd_ne fun z => by subst z; exact fr i s e m p, g⟩
    cases s <;> exact q
  · rcases List.mem_cons.mp hm with z | z
    · cases z; exact fr
    · exact S.free a o (List.mem_cons_of_mem _ z)

/-! ### the rule -/
def compGo (vs : List Nat) (g : MG) (mt : M Bool) (me : M RV) : List RV → List D → List SV → R RV
  | [], acc, sd => .ok (.fresh (.lst acc)) (wipeS sd vs)
  | r :: rs, acc, sd => match g r (wipeS sd vs) with
    | none => .fail
    | some sd1 => match mt sd1 with
      | .ok true sd2 => match (mBind me mShare) sd2 with
        | .ok d sd3 => if acc.length < sizeLine then compGo vs g mt me rs (acc ++ [d]) sd3 else .fail
        | _ => .fail
      | .ok false sd2 => compGo vs g mt me rs acc sd2
      | _ => .fail
def mComp (vs : List Nat) (mi : M (List RV)) (g : MG) (mt : M Bool) (me : M RV) : M RV := mBind mi fun items => compGo vs g mt me items []
theorem wipeS_in {s : List SV} {i : Nat} : ∀ {vs : List Nat}, i ∈ vs → (wipeS s vs)[i]? = if i < s.length then some .no else none
  | [], h => by simp at h
  | v :: vs, hm => by
    rw [wipeS, List.getElem?_set, wipeS_len]
    by_cases hv : v = i
    · subst hv; rw [if_pos rfl]
    · rw [if_neg hv]
      rcases List.mem_cons.mp hm with z | z
      · exact absurd z.symm hv
      · exact wipeS_in z
theorem wipeS_out {s : List SV} {i : Nat} : ∀ {vs : List Nat}, i ∉ vs → (wipeS s vs)[i]? = s[i]?
  | [], _ => rfl
  | v :: vs, hm => by
    simp only [List.mem_cons, not_or] at hm
    rw [wipeS, List.getElem?_set, if_neg (fun z => hm.1 z.symm)]
    exact wipeS_out hm.2
theorem wipeS_wipeS (s : List SV) (vs : List Nat) : wipeS (wipeS s vs) vs = wipeS s vs := by
  apply List.ext_getElem?
  intro i
  by_cases hi : i ∈ vs
  · rw [wipeS_in hi, wipeS_in hi, wipeS_len]
  · rw [wipeS_out hi]
theorem compGo_wipe {vs : List Nat} {g : MG} {mt : M Bool} {me : M RV} (items : List RV) (acc : List D) (sd : List SV) : compGo vs g mt me items acc (wipeS sd vs) = compGo vs g mt me items acc sd := by
  cases items with
  | nil => unfold compGo; rw [wipeS_wipeS]
  | cons r rs => unfold compGo; rw [wipeS_wipeS]
theorem RepL.lenD {W : Wd} {H : Hp} {ds : List D} {vs : List V} (r : RepL W H ds vs) : vs.length = ds.length := r.n.symm
theorem lc_in {fx : Fx} {X : Cx} {Wx : WX} {scope : Scope} {tg elt : Expr} {ifs : List Expr} {wi : TI} {vs sl : List Nat} {mi : M (List RV)} {g : MG} {mt : M Bool} {me : M RV} {tg' : TG} {tt : TT} {te : TE}
    (qi : ∀ F G H sd σ Rj, SR (wd X) fx F G H sd σ → PoI (wd X) fx F G σ Wx Rj (mi sd) → wi σ H Rj)
    (qg : ∀ fx F G H sd sd' σ rv v (Q : L2.St → Hp → Prop), SR (wd X) fx F G H sd σ → RVR (wd X) fx F G H sd σ rv v → g rv sd = some sd' → (∀ F' G' H' σ', Same F F' → Same G G' → SR (wd X) fx F' G' H' sd' σ' → Off sl σ σ' → Q σ' H') → tg' v σ H Q)
    (qt : ∀ fx F G H sd σ Q, SR (wd X) fx F G H sd σ → Po (wd X) fx F G σ (fun _ _ _ _ => False) RlT Q (mt sd) → tt σ H Q)
    (qe : ∀ fx F G H sd σ Q, SR (wd X) fx F G H sd σ → Po (wd X) fx F G σ (fun _ _ _ _ => False) (RlE (wd X) fx σ) Q (me sd) → te σ H Q)
    (hsl : ∀ i ∈ sl, i ∈ vs) {F G H : Hp} {sd : List SV} {σ : L2.St} {Q : VK} (S : SR (wd X) fx F G H sd σ) (h : Po (wd X) fx F G σ Wx (RlE (wd X) fx σ) Q (mComp vs mi g mt me sd)) : tLc wi tg' tt te vs σ H Q := by
  refine qi F G H sd σ _ S ?_
  unfold mComp mBind at h
  cases ei : mi sd with
  | fail => rw [ei] at h; exact h
  | exc x sd1 => rw [ei] at h; exact h
  | ok items sd1 =>
    rw [ei] at h
    intro F1 G1 H1 J e1 e2 S1 wk D hD
    have h : Po (wd X) fx F1 G1 σ Wx (RlE (wd X) fx σ) Q (compGo vs g mt me items [] sd1) := Po.mono e1 e2 h
    have hnd : ∀ o, (D, o) ∉ fx.hold := fun o hm => by rw [(S1.held D o hm).1] at hD; cases hD
    refine ⟨fun i m H' => m = items.length - i ∧ i ≤ items.length ∧ ∃ F' G' sd' acc accV, Same F1 F' ∧ Same G1 G' ∧ SR (wd X) (fx.with D (.lst accV)) F' G' H' sd' (wipe σ vs) ∧ RepL (wd X) F' acc accV ∧ Po (wd X) fx F' G' σ Wx (RlE (wd X) fx σ) Q (compGo vs g mt me (items.drop i) acc sd'),
      ⟨items.length, by simp, Nat.zero_le _, F1, G1, wipeS sd1 vs, [], [], Same.refl _, Same.refl _, ?_, RepL.nil, ?_⟩, ?_⟩
    · exact SR.wiped (S1.holdNew hD) (wipe_length _ _) fun i hi => wipe_get hi
    · rw [List.drop_zero, compGo_wipe]
      exact h
    · rintro i m H2 ⟨rfl, hi, F2, G2, sd2, acc, accV, j1, j2, S2, rl, h2⟩
      obtain ⟨w1, w2⟩ := wk (fx.with D (.lst accV)) i F2 G2 H2 sd2 (wipe σ vs) j1 j2 S2
      by_cases hlt : i < items.length
      · obtain ⟨go, y⟩ := w2 items[i] (List.getElem?_eq_getElem hlt)
        refine .inr ⟨go, fun H' => ∃ F' G' sd' acc accV, Same F1 F' ∧ Same G1 G' ∧ SR (wd X) (fx.with D (.lst accV)) F' G' H' sd' (wipe σ vs) ∧ RepL (wd X) F' acc accV ∧ Po (wd X) fx F' G' σ Wx (RlE (wd X) fx σ) Q (compGo vs g mt me (items.drop (i + 1)) acc sd'),
          fun H' n => ⟨items.length - (i + 1), by omega, rfl, hlt, n⟩, fun x H3 yx => ?_⟩
        obtain ⟨F3, G3, j3, j4, S3, r3⟩ := y x H3 yx
        rw [List.drop_eq_getElem_cons hlt] at h2
        unfold compGo at h2
        have h2 := Po.mono j3 j4 h2
        cases eg : g items[i] (wipeS sd2 vs) with
        | none => rw [eg] at h2; exact h2.elim
        | some sd3 =>
          rw [eg] at h2
          have S3w : SR (wd X) (fx.with D (.lst accV)) F3 G3 H3 (wipeS sd2 vs) (wipe σ vs) := S3.wiped rfl fun _ _ => rfl
          have hr : RVR (wd X) (fx.with D (.lst accV)) F3 G3 H3 (wipeS sd2 vs) (wipe σ vs) items[i] x := by
            -- an item is a plain value
            have := w2 items[i] (List.getElem?_eq_getElem hlt)
            cases hit : items[i] with
            | val d => rw [hit] at r3; exact r3
            | bval d => rw [hit] at r3; exact r3
            | slot j => rw [hit] at r3; exact r3
            | fresh d =>
              rw [hit] at r3
              obtain ⟨a, q1, q2, q3, q4, q5, q6⟩ := r3
              refine ⟨a, q1, q2, q3, q4, fun k s e m => ?_, q6⟩
              rcases wipeS_get e with rfl | ⟨k1, k2⟩
              · cases m
              · exact q5 k s k1 m
          refine qg (fx.with D (.lst accV)) F3 G3 H3 (wipeS sd2 vs) sd3 (wipe σ vs) items[i] x _ S3w hr eg fun F4 G4 H4 σ4 j5 j6 S4 ho => ?_
          have hl4 : σ4.length = σ.length := by rw [ho.len, wipe_length]
          have hout : ∀ i, i ∉ vs → σ4[i]? = σ[i]? := fun i hi => by rw [ho.out i (fun z => hi (hsl i z)), wipe_get hi]
          have hout2 : ∀ i, i ∉ vs → (wipe σ vs)[i]? = σ4[i]? := fun i hi => by rw [wipe_get hi, hout i hi]
          refine ⟨wipe_eq hl4 hout, qt (fx.with D (.lst accV)) F4 G4 H4 sd3 σ4 _ S4 ?_⟩
          have h2 := Po.mono j5 j6 h2
          dsimp only at h2
          cases et : mt sd3 with
          | fail => rw [et] at h2; exact h2.elim
          | exc x s => rw [et] at h2; exact h2.elim
          | ok b sd4 =>
            rw [et] at h2
            intro F5 G5 H5 b' j7 j8 S5 eb
            subst eb
            have h2 := Po.mono j7 j8 h2
            have k1 := (((j1.trans j3).trans j5).trans j7)
            have k2 := (((j2.trans j4).trans j6).trans j8)
            cases b with
            | false =>
              refine iteF ⟨F5, G5, wipeS sd4 vs, acc, accV, k1, k2, S5.wiped (by rw [wipe_length, hl4]) hout2, rl.keep ((j3.trans j5).trans j7), ?_⟩
              rw [compGo_wipe]
              exact h2
            | true =>
              refine iteT (qe (fx.with D (.lst accV)) F5 G5 H5 sd4 σ4 _ S5 ?_)
              dsimp only at h2
              unfold mBind at h2
              cases em : me sd4 with
              | fail => rw [em] at h2; exact h2.elim
              | exc x s => rw [em] at h2; exact h2.elim
              | ok r sd5 =>
                rw [em] at h2
                intro F6 G6 H6 yv j9 j10 S6 ry
                obtain ⟨F7, G7, i1, i2, S7, ry⟩ := ry.keep S6
                have h2 := Po.mono (j9.trans i1) (j10.trans i2) h2
                unfold R.bind at h2
                dsimp only at h2
                cases es : mShare r sd5 with
                | fail => rw [es] at h2; exact h2.elim
                | exc x s => rw [es] at h2; exact h2.elim
                | ok d sd6 =>
                  rw [es] at h2
                  obtain ⟨F8, G8, i3, i4, S8, rd⟩ := share_ok S7 ry es
                  have h2 := Po.mono i3 i4 h2
                  obtain ⟨hD6, _, _⟩ := S8.held D (.lst accV) List.mem_cons_self
                  dsimp only at h2
                  split at h2
                  · rename_i hz
                    have ga := ((j9.trans i1).trans i3)
                    have rl' := rl.keep ((((j3.trans j5).trans j7).trans ga))
                    refine ⟨accV, hD6, by rw [rl.lenD]; exact hz, F8, G8, wipeS sd6 vs, acc ++ [d], accV ++ [yv], k1.trans ga, k2.trans ((j10.trans i2).trans i4), ?_, rl'.append (RepL.single rd), ?_⟩
                    · exact (S8.holdSet hnd).wiped (by rw [wipe_length, hl4]) hout2
                    · rw [compGo_wipe]
                      exact h2
                  · exact h2.elim
      · have e : i = items.length := by omega
        subst e
        rw [List.drop_length] at h2
        unfold compGo at h2
        obtain ⟨hD, hG, hH⟩ := S2.held D (.lst accV) List.mem_cons_self
        have fr := S2.free D (.lst accV) List.mem_cons_self
        have S9 : SR (wd X) fx F2 G2 H2 (wipeS sd2 vs) σ := S2.unhold.wiped (wipe_length _ _).symm fun i hi => (wipe_get hi).symm
        refine .inl ⟨w1 rfl, h2 F2 G2 H2 _ (Same.refl _) (Same.refl _) S9 ⟨D, rfl, hG, hH, ⟨accV, hD, rl⟩, fun k s e m => ?_, hnd⟩⟩
        rcases wipeS_get e with rfl | ⟨q1, q2⟩
        · cases m
        · rw [← wipe_get q2]
          exact fr k s q1 m
section
variable {fx : Fx} {X : Cx} {Wx : WX} {pos : Pos}
theorem se_lc {scope : Scope} {own : List (Str × Nat)} {tg elt iter : Expr} {ifs : List Expr} {sl : List Nat} {mi : M (List RV)} {g : MG} {mt : M Bool} {me : M RV} (hc : X.calm = true) (hN : X.N.Nodup) (hi : SI fx X Wx tg iter mi) (ok : BlkOk X.N X.env.scope scope own) (hg : SGb X scope tg sl g) (ht : STb X scope ifs mt) (he : SEb X scope elt me)
    (hsl : ∀ i ∈ sl, i ∈ own.map (·.2)) (hs : ∀ x, foldedSetIterable iter X.env x = pure x := by intro _; rfl) : SE fx X Wx (.ListComp elt [⟨tg, iter, ifs, 0⟩] scope pos) (mComp (own.map (·.2)) mi g mt me) := by
  obtain ⟨wi, pi, qi⟩ := hi.ex
  obtain ⟨tg', pg, qg⟩ := hg.ex
  obtain ⟨tt, pt, qt⟩ := ht.ex
  obtain ⟨te, pe, qe⟩ := he.ex
  exact ⟨_, pe_lc hc hN pi ok pg pt pe hs, fun F G H sd σ Q S h => lc_in (scope := scope) (tg := tg) (elt := elt) (ifs := ifs) qi qg qt qe hsl S h⟩
/-- y = [..] -/
theorem ss_setLc {i : Nat} {y : Str} {py spos : Pos} {scope : Scope} {own : List (Str × Nat)} {tg elt iter : Expr} {ifs : List Expr} {sl : List Nat} {mi : M (List RV)} {g : MG} {mt : M Bool} {me : M RV} (hc : X.calm = true) (hN : X.N.Nodup) (hy : X.N[i]? = some y) (hyl : X.env.scope.names.lookup y = some .local)
    (hsw : swapsWith (.ListComp elt [⟨tg, iter, ifs, 0⟩] scope pos) (some (.Name y py)) spos.line X.env = pure true) (hi : SI fx X Wx tg iter mi) (ok : BlkOk X.N X.env.scope scope own) (hg : SGb X scope tg sl g) (ht : STb X scope ifs mt) (he : SEb X scope elt me)
    (hsl : ∀ i ∈ sl, i ∈ own.map (·.2)) (hs : ∀ x, foldedSetIterable iter X.env x = pure x := by intro _; rfl) : SS fx X Wx (.Assign [.Name y py] (.ListComp elt [⟨tg, iter, ifs, 0⟩] scope pos) spos) (mAsg (putSlot i) (mComp (own.map (·.2)) mi g mt me)) := by
  obtain ⟨wi, pi, qi⟩ := hi.ex
  obtain ⟨tg', pg, qg⟩ := hg.ex
  obtain ⟨tt, pt, qt⟩ := ht.ex
  obtain ⟨te, pe, qe⟩ := he.ex
  refine ⟨_, ps_setLc hc hN hy hyl hsw pi ok pg pt pe hs, fun F G H sd σ D S h => ?_⟩
  refine oneS (ta := tLc wi tg' tt te (own.map (·.2))) (fun F G H sd σ Q S h => lc_in (scope := scope) (tg := tg) (elt := elt) (ifs := ifs) qi qg qt qe hsl S h) S h fun F1 G1 H1 sd1 ra v e1 e2 S1 r1 h => ?_
  cases eg : putSlot i ra sd1 with
  | none => rw [eg] at h; exact h.elim
  | some sd2 =>
    rw [eg] at h
    obtain ⟨F', G', e3, e4, S'⟩ := put_ok S1 r1 eg
    exact h F' G' H1 _ e3 e4 S'
end
end Av

/-! list comprehensions with two clauses -/
namespace Av
open PySem L2
def inGo (vs : List Nat) (g : MG) (mt : M Bool) (me : M RV) : List RV → List D → List SV → Option (List D × List SV)
  | [], acc, sd => some (acc, wipeS sd vs)
  | r :: rs, acc, sd => match g r (wipeS sd vs) with
    | none => none
    | some sd1 => match mt sd1 with
      | .ok true sd2 => match (mBind me mShare) sd2 with
        | .ok d sd3 => if acc.length < sizeLine then inGo vs g mt me rs (acc ++ [d]) sd3 else none
        | _ => none
      | .ok false sd2 => inGo vs g mt me rs acc sd2
      | _ => none
def outGo (vs : List Nat) (g : MG) (mt : M Bool) (mi1 : M (List RV)) (inner : List RV → List D → List SV → Option (List D × List SV)) : List RV → List D → List SV → R RV
  | [], acc, sd => .ok (.fresh (.lst acc)) (wipeS sd vs)
  | r :: rs, acc, sd => match g r (wipeS sd vs) with
    | none => .fail
    | some sd1 => match mt sd1 with
      | .ok true sd2 => match mi1 sd2 with
        | .ok items sd3 => match inner items acc sd3 with
          | some (acc, sd4) => outGo vs g mt mi1 inner rs acc sd4
          | none => .fail
        | _ => .fail
      | .ok false sd2 => outGo vs g mt mi1 inner rs acc sd2
      | _ => .fail
def mComp2 (vs vs1 : List Nat) (mi : M (List RV)) (g : MG) (mt : M Bool) (mi1 : M (List RV)) (g1 : MG) (mt1 : M Bool) (me : M RV) : M RV := mBind mi fun items => outGo vs g mt mi1 (inGo vs1 g1 mt1 me) items []
theorem outGo_wipe {vs : List Nat} {g : MG} {mt : M Bool} {mi1 : M (List RV)} {inner : List RV → List D → List SV → Option (List D × List SV)} (items : List RV) (acc : List D) (sd : List SV) : outGo vs g mt mi1 inner items acc (wipeS sd vs) = outGo vs g mt mi1 inner items acc sd := by
  cases items with
  | nil => unfold outGo; rw [wipeS_wipeS]
  | cons r rs => unfold outGo; rw [wipeS_wipeS]
theorem inGo_wipe {vs : List Nat} {g : MG} {mt : M Bool} {me : M RV} (items : List RV) (acc : List D) (sd : List SV) : inGo vs g mt me items acc (wipeS sd vs) = inGo vs g mt me items acc sd := by
  cases items with
  | nil => unfold inGo; rw [wipeS_wipeS]
  | cons r rs => unfold inGo; rw [wipeS_wipeS]
theorem items_wiped {W : Wd} {fx : Fx} {F G H : Hp} {sd : List SV} {σ : L2.St} {vs : List Nat} {r : RV} {x : V} (q : RVR W fx F G H sd σ r x) : RVR W fx F G H (wipeS sd vs) σ r x := by
  cases r with
  | val d => exact q
  | bval d => exact q
  | slot j => exact q
  | fresh d =>
    obtain ⟨a, q1, q2, q3, q4, q5, q6⟩ := q
    refine ⟨a, q1, q2, q3, q4, fun k s e m => ?_, q6⟩
    rcases wipeS_get e with rfl | ⟨k1, k2⟩
    · cases m
    · exact q5 k s k1 m
section
variable {X : Cx} {scope : Scope}
theorem in_in {fx : Fx} {vs sl : List Nat} {g : MG} {mt : M Bool} {me : M RV} {tg' : TG} {tt : TT} {te : TE} {D : Addr} {J : It} {items : List RV} {F1 G1 : Hp}
    (qg : ∀ fx F G H sd sd' σ rv v (Q : L2.St → Hp → Prop), SR (wd X) fx F G H sd σ → RVR (wd X) fx F G H sd σ rv v → g rv sd = some sd' → (∀ F' G' H' σ', Same F F' → Same G G' → SR (wd X) fx F' G' H' sd' σ' → Off sl σ σ' → Q σ' H') → tg' v σ H Q)
    (qt : ∀ fx F G H sd σ Q, SR (wd X) fx F G H sd σ → Po (wd X) fx F G σ (fun _ _ _ _ => False) RlT Q (mt sd) → tt σ H Q)
    (qe : ∀ fx F G H sd σ Q, SR (wd X) fx F G H sd σ → Po (wd X) fx F G σ (fun _ _ _ _ => False) (RlE (wd X) fx σ) Q (me sd) → te σ H Q)
    (hsl : ∀ i ∈ sl, i ∈ vs) (hnd : ∀ o, (D, o) ∉ fx.hold) (wk : Walks (wd X) F1 G1 J items) {H1 : Hp} {sd1 : List SV} {σ : L2.St} {acc accV} (S1 : SR (wd X) (fx.with D (.lst accV)) F1 G1 H1 sd1 (wipe σ vs)) (rl : RepL (wd X) F1 acc accV) {acc' : List Av.D} {sd' : List SV} (h : inGo vs g mt me items acc sd1 = some (acc', sd'))
    {Nx : Hp → Prop} (K : ∀ F' G' H' accV', Same F1 F' → Same G1 G' → SR (wd X) (fx.with D (.lst accV')) F' G' H' sd' (wipe σ vs) → RepL (wd X) F' acc' accV' → Nx H') :
    ∃ W1 : Nat → Nat → Hp → Prop, (∃ m, W1 0 m H1) ∧ ∀ j k H, W1 j k H →
      (J.stop j H ∧ Nx H) ∨ (J.go j H ∧ ∃ Nx1 : Hp → Prop, (∀ H', Nx1 H' → ∃ k', k' < k ∧ W1 (j + 1) k' H') ∧ ∀ x H', J.yld j H x H' → tg' x (wipe σ vs) H' fun σ3 H5 => wipe σ3 vs = wipe σ vs ∧ tt σ3 H5 fun b H6 =>
        if b = true then te σ3 H6 fun y H7 => ∃ acc, H7 D = some (.lst acc) ∧ acc.length < sizeLine ∧ Nx1 (upd H7 D (.lst (acc ++ [y]))) else Nx1 H6) := by
  refine ⟨fun i m H' => m = items.length - i ∧ i ≤ items.length ∧ ∃ F' G' sd2 acc2 accV2, Same F1 F' ∧ Same G1 G' ∧ SR (wd X) (fx.with D (.lst accV2)) F' G' H' sd2 (wipe σ vs) ∧ RepL (wd X) F' acc2 accV2 ∧ inGo vs g mt me (items.drop i) acc2 sd2 = some (acc', sd'),
    ⟨items.length, by simp, Nat.zero_le _, F1, G1, sd1, acc, accV, Same.refl _, Same.refl _, S1, rl, by simpa using h⟩, ?_⟩
  rintro i m H2 ⟨rfl, hi, F2, G2, sd2, acc, accV, j1, j2, S2, rl, h2⟩
  obtain ⟨w1, w2⟩ := wk (fx.with D (.lst accV)) i F2 G2 H2 sd2 (wipe σ vs) j1 j2 S2
  by_cases hlt : i < items.length
  · obtain ⟨go, y⟩ := w2 items[i] (List.getElem?_eq_getElem hlt)
    refine .inr ⟨go, fun H' => ∃ F' G' sd2 acc2 accV2, Same F1 F' ∧ Same G1 G' ∧ SR (wd X) (fx.with D (.lst accV2)) F' G' H' sd2 (wipe σ vs) ∧ RepL (wd X) F' acc2 accV2 ∧ inGo vs g mt me (items.drop (i + 1)) acc2 sd2 = some (acc', sd'),
      fun H' n => ⟨items.length - (i + 1), by omega, rfl, hlt, n⟩, fun x H3 yx => ?_⟩
    obtain ⟨F3, G3, j3, j4, S3, r3⟩ := y x H3 yx
    rw [List.drop_eq_getElem_cons hlt] at h2
    unfold inGo at h2
    cases eg : g items[i] (wipeS sd2 vs) with
    | none => rw [eg] at h2; cases h2
    | some sd3 =>
      rw [eg] at h2
      have S3w : SR (wd X) (fx.with D (.lst accV)) F3 G3 H3 (wipeS sd2 vs) (wipe σ vs) := S3.wiped rfl fun _ _ => rfl
      refine qg (fx.with D (.lst accV)) F3 G3 H3 (wipeS sd2 vs) sd3 (wipe σ vs) items[i] x _ S3w (items_wiped r3) eg fun F4 G4 H4 σ4 j5 j6 S4 ho => ?_
      have hl4 : σ4.length = σ.length := by rw [ho.len, wipe_length]
      have hout : ∀ i, i ∉ vs → σ4[i]? = σ[i]? := fun i hi => by rw [ho.out i (fun z => hi (hsl i z)), wipe_get hi]
      have hout2 : ∀ i, i ∉ vs → (wipe σ vs)[i]? = σ4[i]? := fun i hi => by rw [wipe_get hi, hout i hi]
      refine ⟨wipe_eq hl4 hout, qt (fx.with D (.lst accV)) F4 G4 H4 sd3 σ4 _ S4 ?_⟩
      dsimp only at h2
      cases et : mt sd3 with
      | fail => rw [et] at h2; cases h2
      | exc x s => rw [et] at h2; cases h2
      | ok b sd4 =>
        rw [et] at h2
        intro F5 G5 H5 b' j7 j8 S5 eb
        subst eb
        have k1 := (((j1.trans j3).trans j5).trans j7)
        have k2 := (((j2.trans j4).trans j6).trans j8)
        cases b with
        | false =>
          exact iteF ⟨F5, G5, wipeS sd4 vs, acc, accV, k1, k2, S5.wiped (by rw [wipe_length, hl4]) hout2, rl.keep ((j3.trans j5).trans j7), by rw [inGo_wipe]; exact h2⟩
        | true =>
          refine iteT (qe (fx.with D (.lst accV)) F5 G5 H5 sd4 σ4 _ S5 ?_)
          dsimp only at h2
          unfold mBind at h2
          cases em : me sd4 with
          | fail => rw [em] at h2; cases h2
          | exc x s => rw [em] at h2; cases h2
          | ok r sd5 =>
            rw [em] at h2
            intro F6 G6 H6 yv j9 j10 S6 ry
            obtain ⟨F7, G7, i1, i2, S7, ry⟩ := ry.keep S6
            unfold R.bind at h2
            dsimp only at h2
            cases es : mShare r sd5 with
            | fail => rw [es] at h2; cases h2
            | exc x s => rw [es] at h2; cases h2
            | ok d sd6 =>
              rw [es] at h2
              obtain ⟨F8, G8, i3, i4, S8, rd⟩ := share_ok S7 ry es
              obtain ⟨hD6, _, _⟩ := S8.held D (.lst accV) List.mem_cons_self
              dsimp only at h2
              split at h2
              · rename_i hz
                have ga := ((j9.trans i1).trans i3)
                have rl' := rl.keep ((((j3.trans j5).trans j7).trans ga))
                exact ⟨accV, hD6, by rw [rl.lenD]; exact hz, F8, G8, wipeS sd6 vs, acc ++ [d], accV ++ [yv], k1.trans ga, k2.trans ((j10.trans i2).trans i4), (S8.holdSet hnd).wiped (by rw [wipe_length, hl4]) hout2, rl'.append (RepL.single rd), by rw [inGo_wipe]; exact h2⟩
              · cases h2
  · have e : i = items.length := by omega
    subst e
    rw [List.drop_length] at h2
    unfold inGo at h2
    cases h2
    refine .inl ⟨w1 rfl, K F2 G2 H2 accV j1 j2 (S2.wiped rfl fun _ _ => rfl) rl⟩
theorem lc2_in {fx : Fx} {Wx : WX} {wi wi1 : TI} {vs vs1 sl sl1 : List Nat} {mi mi1 : M (List RV)} {g g1 : MG} {mt mt1 : M Bool} {me : M RV} {tg' tg1 : TG} {tt tt1 : TT} {te : TE}
    (qi : ∀ F G H sd σ Rj, SR (wd X) fx F G H sd σ → PoI (wd X) fx F G σ Wx Rj (mi sd) → wi σ H Rj)
    (qg : ∀ fx F G H sd sd' σ rv v (Q : L2.St → Hp → Prop), SR (wd X) fx F G H sd σ → RVR (wd X) fx F G H sd σ rv v → g rv sd = some sd' → (∀ F' G' H' σ', Same F F' → Same G G' → SR (wd X) fx F' G' H' sd' σ' → Off sl σ σ' → Q σ' H') → tg' v σ H Q)
    (qt : ∀ fx F G H sd σ Q, SR (wd X) fx F G H sd σ → Po (wd X) fx F G σ (fun _ _ _ _ => False) RlT Q (mt sd) → tt σ H Q)
    (qi1 : ∀ fx F G H sd σ Rj, SR (wd X) fx F G H sd σ → PoI (wd X) fx F G σ (fun _ _ _ _ => False) Rj (mi1 sd) → wi1 σ H Rj)
    (qg1 : ∀ fx F G H sd sd' σ rv v (Q : L2.St → Hp → Prop), SR (wd X) fx F G H sd σ → RVR (wd X) fx F G H sd σ rv v → g1 rv sd = some sd' → (∀ F' G' H' σ', Same F F' → Same G G' → SR (wd X) fx F' G' H' sd' σ' → Off sl1 σ σ' → Q σ' H') → tg1 v σ H Q)
    (qt1 : ∀ fx F G H sd σ Q, SR (wd X) fx F G H sd σ → Po (wd X) fx F G σ (fun _ _ _ _ => False) RlT Q (mt1 sd) → tt1 σ H Q)
    (qe : ∀ fx F G H sd σ Q, SR (wd X) fx F G H sd σ → Po (wd X) fx F G σ (fun _ _ _ _ => False) (RlE (wd X) fx σ) Q (me sd) → te σ H Q)
    (hsl : ∀ i ∈ sl, i ∈ vs) (hsl1 : ∀ i ∈ sl1, i ∈ vs1) (hv : ∀ i ∈ vs1, i ∈ vs) {F G H : Hp} {sd : List SV} {σ : L2.St} {Q : VK} (S : SR (wd X) fx F G H sd σ) (h : Po (wd X) fx F G σ Wx (RlE (wd X) fx σ) Q (mComp2 vs vs1 mi g mt mi1 g1 mt1 me sd)) : tLc2 wi tg' tt wi1 tg1 tt1 te vs vs1 σ H Q := by
  refine qi F G H sd σ _ S ?_
  unfold mComp2 mBind at h
  cases ei : mi sd with
  | fail => rw [ei] at h; exact h
  | exc x sd1 => rw [ei] at h; exact h
  | ok items sd1 =>
    rw [ei] at h
    intro F1 G1 H1 J e1 e2 S1 wk D hD
    have h : Po (wd X) fx F1 G1 σ Wx (RlE (wd X) fx σ) Q (outGo vs g mt mi1 (inGo vs1 g1 mt1 me) items [] sd1) := Po.mono e1 e2 h
    have hnd : ∀ o, (D, o) ∉ fx.hold := fun o hm => by rw [(S1.held D o hm).1] at hD; cases hD
    refine ⟨fun i m H' => m = items.length - i ∧ i ≤ items.length ∧ ∃ F' G' sd' acc accV, Same F1 F' ∧ Same G1 G' ∧ SR (wd X) (fx.with D (.lst accV)) F' G' H' sd' (wipe σ vs) ∧ RepL (wd X) F' acc accV ∧ Po (wd X) fx F' G' σ Wx (RlE (wd X) fx σ) Q (outGo vs g mt mi1 (inGo vs1 g1 mt1 me) (items.drop i) acc sd'),
      ⟨items.length, by simp, Nat.zero_le _, F1, G1, wipeS sd1 vs, [], [], Same.refl _, Same.refl _, ?_, RepL.nil, ?_⟩, ?_⟩
    · exact SR.wiped (S1.holdNew hD) (wipe_length _ _) fun i hi => wipe_get hi
    · rw [List.drop_zero, outGo_wipe]
      exact h
    · rintro i m H2 ⟨rfl, hi, F2, G2, sd2, acc, accV, j1, j2, S2, rl, h2⟩
      obtain ⟨w1, w2⟩ := wk (fx.with D (.lst accV)) i F2 G2 H2 sd2 (wipe σ vs) j1 j2 S2
      by_cases hlt : i < items.length
      · obtain ⟨go, y⟩ := w2 items[i] (List.getElem?_eq_getElem hlt)
        refine .inr ⟨go, fun H' => ∃ F' G' sd' acc accV, Same F1 F' ∧ Same G1 G' ∧ SR (wd X) (fx.with D (.lst accV)) F' G' H' sd' (wipe σ vs) ∧ RepL (wd X) F' acc accV ∧ Po (wd X) fx F' G' σ Wx (RlE (wd X) fx σ) Q (outGo vs g mt mi1 (inGo vs1 g1 mt1 me) (items.drop (i + 1)) acc sd'),
          fun H' n => ⟨items.length - (i + 1), by omega, rfl, hlt, n⟩, fun x H3 yx => ?_⟩
        obtain ⟨F3, G3, j3, j4, S3, r3⟩ := y x H3 yx
        rw [List.drop_eq_getElem_cons hlt] at h2
        unfold outGo at h2
        have h2 := Po.mono j3 j4 h2
        cases eg : g items[i] (wipeS sd2 vs) with
        | none => rw [eg] at h2; exact h2.elim
        | some sd3 =>
          rw [eg] at h2
          have S3w : SR (wd X) (fx.with D (.lst accV)) F3 G3 H3 (wipeS sd2 vs) (wipe σ vs) := S3.wiped rfl fun _ _ => rfl
          refine qg (fx.with D (.lst accV)) F3 G3 H3 (wipeS sd2 vs) sd3 (wipe σ vs) items[i] x _ S3w (items_wiped r3) eg fun F4 G4 H4 σ4 j5 j6 S4 ho => ?_
          have hl4 : σ4.length = σ.length := by rw [ho.len, wipe_length]
          have hout : ∀ i, i ∉ vs → σ4[i]? = σ[i]? := fun i hi => by rw [ho.out i (fun z => hi (hsl i z)), wipe_get hi]
          have hout2 : ∀ i, i ∉ vs → (wipe σ vs)[i]? = σ4[i]? := fun i hi => by rw [wipe_get hi, hout i hi]
          refine ⟨wipe_eq hl4 hout, qt (fx.with D (.lst accV)) F4 G4 H4 sd3 σ4 _ S4 ?_⟩
          have h2 := Po.mono j5 j6 h2
          dsimp only at h2
          cases et : mt sd3 with
          | fail => rw [et] at h2; exact h2.elim
          | exc x s => rw [et] at h2; exact h2.elim
          | ok b sd4 =>
            rw [et] at h2
            intro F5 G5 H5 b' j7 j8 S5 eb
            subst eb
            have h2 := Po.mono j7 j8 h2
            have k1 := (((j1.trans j3).trans j5).trans j7)
            have k2 := (((j2.trans j4).trans j6).trans j8)
            cases b with
            | false =>
              refine iteF ⟨F5, G5, wipeS sd4 vs, acc, accV, k1, k2, S5.wiped (by rw [wipe_length, hl4]) hout2, rl.keep ((j3.trans j5).trans j7), ?_⟩
              rw [outGo_wipe]
              exact h2
            | true =>
              refine iteT (qi1 (fx.with D (.lst accV)) F5 G5 H5 sd4 σ4 _ S5 ?_)
              dsimp only at h2
              cases em : mi1 sd4 with
              | fail => rw [em] at h2; exact h2.elim
              | exc x s => rw [em] at h2; exact h2.elim
              | ok items1 sd5 =>
                rw [em] at h2
                intro F6 G6 H6 J1 j9 j10 S6 wk1
                have h2 := Po.mono j9 j10 h2
                dsimp only at h2
                cases en : inGo vs1 g1 mt1 me items1 acc sd5 with
                | none => rw [en] at h2; exact h2.elim
                | some p =>
                  obtain ⟨acc', sd6⟩ := p
                  rw [en] at h2
                  have S6w : SR (wd X) (fx.with D (.lst accV)) F6 G6 H6 (wipeS sd5 vs1) (wipe σ4 vs1) := S6.wiped (wipe_length _ _) fun i hi => wipe_get hi
                  refine in_in qg1 qt1 qe hsl1 hnd wk1 S6w (rl.keep (((j3.trans j5).trans j7).trans j9)) (by rw [inGo_wipe]; exact en) fun F7 G7 H7 accV7 i1 i2 S7 rl7 => ?_
                  refine ⟨F7, G7, wipeS sd6 vs, acc', accV7, (k1.trans j9).trans i1, (k2.trans j10).trans i2, S7.wiped (by rw [wipe_length, wipe_length, hl4]) (fun i hi => ?_), rl7, ?_⟩
                  · rw [wipe_get hi, wipe_get (fun z => hi (hv i z)), hout i hi]
                  · rw [outGo_wipe]
                    exact Po.mono i1 i2 h2
      · have e : i = items.length := by omega
        subst e
        rw [List.drop_length] at h2
        unfold outGo at h2
        obtain ⟨hD, hG, hH⟩ := S2.held D (.lst accV) List.mem_cons_self
        have fr := S2.free D (.lst accV) List.mem_cons_self
        have S9 : SR (wd X) fx F2 G2 H2 (wipeS sd2 vs) σ := S2.unhold.wiped (wipe_length _ _).symm fun i hi => (wipe_get hi).symm
        refine .inl ⟨w1 rfl, h2 F2 G2 H2 _ (Same.refl _) (Same.refl _) S9 ⟨D, rfl, hG, hH, ⟨accV, hD, rl⟩, fun k s e m => ?_, hnd⟩⟩
        rcases wipeS_get e with rfl | ⟨q1, q2⟩
        · cases m
        · rw [← wipe_get q2]
          exact fr k s q1 m
end
section
variable {fx : Fx} {X : Cx} {Wx : WX} {pos : Pos}
theorem se_lc2 {scope : Scope} {own : List (Str × Nat)} {tg elt iter tg1 iter1 : Expr} {ifs ifs1 : List Expr} {sl sl1 vs1 : List Nat} {mi mi1 : M (List RV)} {g g1 : MG} {mt mt1 : M Bool} {me : M RV} (hc : X.calm = true) (hN : X.N.Nodup) (hi : SI fx X Wx tg iter mi) (ok : BlkOk X.N X.env.scope scope own) (hg : SGb X scope tg sl g) (ht : STb X scope ifs mt)
    (hi1 : SIb X scope tg1 iter1 mi1) (hg1 : SGb X scope tg1 sl1 g1) (ht1 : STb X scope ifs1 mt1) (he : SEb X scope elt me)
    (hsl : ∀ i ∈ sl, i ∈ own.map (·.2)) (hsl1 : ∀ i ∈ sl1, i ∈ vs1) (hv : ∀ i ∈ vs1, i ∈ own.map (·.2)) (hs : ∀ x, foldedSetIterable iter X.env x = pure x := by intro _; rfl) (hs1 : ∀ env x, foldedSetIterable iter1 env x = pure x := by intro _ _; rfl) :
    SE fx X Wx (.ListComp elt [⟨tg, iter, ifs, 0⟩, ⟨tg1, iter1, ifs1, 0⟩] scope pos) (mComp2 (own.map (·.2)) vs1 mi g mt mi1 g1 mt1 me) := by
  obtain ⟨wi, pi, qi⟩ := hi.ex
  obtain ⟨tg', pg, qg⟩ := hg.ex
  obtain ⟨tt, pt, qt⟩ := ht.ex
  obtain ⟨wi1, pi1, qi1⟩ := hi1.ex
  obtain ⟨tg1', pg1, qg1⟩ := hg1.ex
  obtain ⟨tt1, pt1, qt1⟩ := ht1.ex
  obtain ⟨te, pe, qe⟩ := he.ex
  exact ⟨_, pe_lc2 hc hN pi ok hv pg pt pi1 pg1 pt1 pe hs hs1, fun F G H sd σ Q S h => lc2_in qi qg qt qi1 qg1 qt1 qe hsl hsl1 hv S h⟩
theorem ss_setLc2 {i : Nat} {y : Str} {py spos : Pos} {scope : Scope} {own : List (Str × Nat)} {tg elt iter tg1 iter1 : Expr} {ifs ifs1 : List Expr} {sl sl1 vs1 : List Nat} {mi mi1 : M (List RV)} {g g1 : MG} {mt mt1 : M Bool} {me : M RV} (hc : X.calm = true) (hN : X.N.Nodup) (hy : X.N[i]? = some y) (hyl : X.env.scope.names.lookup y = some .local)
    (hsw : swapsWith (.ListComp elt [⟨tg, iter, ifs, 0⟩, ⟨tg1, iter1, ifs1, 0⟩] scope pos) (some (.Name y py)) spos.line X.env = pure true) (hi : SI fx X Wx tg iter mi) (ok : BlkOk X.N X.env.scope scope own) (hg : SGb X scope tg sl g) (ht : STb X scope ifs mt)
    (hi1 : SIb X scope tg1 iter1 mi1) (hg1 : SGb X scope tg1 sl1 g1) (ht1 : STb X scope ifs1 mt1) (he : SEb X scope elt me)
    (hsl : ∀ i ∈ sl, i ∈ own.map (·.2)) (hsl1 : ∀ i ∈ sl1, i ∈ vs1) (hv : ∀ i ∈ vs1, i ∈ own.map (·.2)) (hs : ∀ x, foldedSetIterable iter X.env x = pure x := by intro _; rfl) (hs1 : ∀ env x, foldedSetIterable iter1 env x = pure x := by intro _ _; rfl) :
    SS fx X Wx (.Assign [.Name y py] (.ListComp elt [⟨tg, iter, ifs, 0⟩, ⟨tg1, iter1, ifs1, 0⟩] scope pos) spos) (mAsg (putSlot i) (mComp2 (own.map (·.2)) vs1 mi g mt mi1 g1 mt1 me)) := by
  obtain ⟨wi, pi, qi⟩ := hi.ex
  obtain ⟨tg', pg, qg⟩ := hg.ex
  obtain ⟨tt, pt, qt⟩ := ht.ex
  obtain ⟨wi1, pi1, qi1⟩ := hi1.ex
  obtain ⟨tg1', pg1, qg1⟩ := hg1.ex
  obtain ⟨tt1, pt1, qt1⟩ := ht1.ex
  obtain ⟨te, pe, qe⟩ := he.ex
  refine ⟨_, ps_setLc2 hc hN hy hyl hsw pi ok hv pg pt pi1 pg1 pt1 pe hs hs1, fun F G H sd σ D S h => ?_⟩
  refine oneS (ta := tLc2 wi tg' tt wi1 tg1' tt1 te (own.map (·.2)) vs1) (fun F G H sd σ Q S h => lc2_in qi qg qt qi1 qg1 qt1 qe hsl hsl1 hv S h) S h fun F1 G1 H1 sd1 ra v e1 e2 S1 r1 h => ?_
  cases eg : putSlot i ra sd1 with
  | none => rw [eg] at h; exact h.elim
  | some sd2 =>
    rw [eg] at h
    obtain ⟨F', G', e3, e4, S'⟩ := put_ok S1 r1 eg
    exact h F' G' H1 _ e3 e4 S'
end
end Av

/-! tuple(range(..)); sorted(..) of lists, any data -/
namespace Av
open PySem L2
section
variable {fx : Fx} {X : Cx} {Wx : WX} {e a b c : Expr} {pos : Pos}
theorem int?_some {d : D} {i : Int} (h : d.int? = some i) : d = .int i := by
  cases d <;> first | (cases h; rfl) | cases h
def intsD (lo : Int) (n : Nat) : List D := (List.range n).map fun (i : Nat) => D.int (lo + (i : Int))
theorem intsD_rep {W : Wd} {H : Hp} (lo hi : Int) : RepL W H (intsD lo (hi - lo).toNat) (rgV lo hi) := by
  have e : intsD lo (hi - lo).toNat = ((List.range (hi - lo).toNat).map fun (i : Nat) => lo + (i : Int)).map D.int := by unfold intsD; rw [List.map_map]; rfl
  have e2 : rgV lo hi = ((List.range (hi - lo).toNat).map fun (i : Nat) => lo + (i : Int)).map V.int := by unfold rgV; rw [List.map_map]; rfl
  rw [e, e2]
  exact RepL.of_ints _
def mTupRg (ma : M RV) : M RV := mBind ma fun r => mBind (mRead r.keep) fun d => mBind (mGet d.int?) fun n => if 0 ≤ n ∧ n ≤ 1000000 then mPure (.val (.tup (intsD 0 n.toNat))) else mFail
theorem se_tupRg {p p2 pos2 : Pos} {ma : M RV} (hc : X.calm = true) (hg : Gl X "tuple") (hm : X.mg "tuple" = none) (hg2 : Gl X "range") (hm2 : X.mg "range" = none) (ha : SE fx X Wx a ma)
    (na2 : starEach [a] X.env = (false, eval a X.env) :: starEach [] X.env := by rfl) (na : starEach [.Call (.Name "range" p2) [a] [] pos2] X.env = (false, eval (.Call (.Name "range" p2) [a] [] pos2) X.env) :: starEach [] X.env := by rfl) :
    SE fx X Wx (.Call (.Name "tuple" p) [.Call (.Name "range" p2) [a] [] pos2] [] pos) (mTupRg ma) := by
  obtain ⟨t, pa, q⟩ := ha.ex
  refine ⟨_, pe_tupRg hc hg hm (prg_1 hg2 hm2 pa na2) na, fun F G H sd σ Q S h => one q S h fun F1 G1 H1 sd1 ra v e1 e2 S1 r1 h1 => ?_⟩
  obtain ⟨d, k1, h2⟩ := h1.read
  obtain ⟨n, k2, h3⟩ := h2.getB
  have r := r1.read S1 k1
  have k2' := int?_some k2
  subst k2'
  obtain rfl := r.int_inv
  clear h h1 h2
  by_cases hn : 0 ≤ n ∧ n ≤ 1000000
  · rw [if_pos hn] at h3
    have h62 : (2 : Int) ^ 62 = 4611686018427387904 := by decide
    have h24 : (2 : Nat) ^ 24 = 16777216 := by decide
    refine ⟨n, rfl, ⟨by omega, by omega, by omega, by omega, by omega⟩, fun w hw => ?_⟩
    have hr := intsD_rep (W := wd X) (H := F1) 0 n
    rw [Int.sub_zero] at hr
    exact out_newSh S1 (fun F' G' H' w => h3 F' G' H' w) hr hw
  · rw [if_neg hn] at h3
    exact h3.elim
end

/-! ### sorted -/
section
open PySem.W PySem.Calls PyProof.Rows
variable {prog : Program} {w : World} {A : Around} {E : Value → Shared → Prop} {s : Shared}
theorem call_tuple_lt {Q : Value → Shared → Prop} {l b : Addr} {items items2 : Array Value} {e r : Nat → Bool} (hl : s.heap.IsTuple l items) (hb : s.heap.IsTuple b items2)
    (he : ∀ j (h1 : j < items.size) (h2 : j < items2.size), SeqAt.EqAt A.in1 s items[j] items2[j] (e j)) (hr : ∀ j (h1 : j < items.size) (h2 : j < items2.size), e j = false → SeqAt.RcLt A.in1 s items[j] items2[j] (r j))
    (h : Q (.bool (SeqAt.firstLt e r (decide (items.size < items2.size)) (List.range (min items.size items2.size)))) s) : wpAny (model prog w) A (call (.builtin "tuple.__lt__") [.ref l, .ref b]) Q E s := by
  obtain ⟨⟨cls, dd, data, sl⟩, ho, hc, n, hd⟩ := id hl
  obtain ⟨⟨cls2, dd2, data2, sl2⟩, ho2, hc2, n2, hd2⟩ := id hb
  simp only at hc hd hc2 hd2
  subst hc hd hc2 hd2
  exact call_meets F.slot_tuple_lt ⟨_, ho, rfl⟩ F.entry_tuple_lt (F.args_tuple_lt_2 _ _) (SeqAt.tuple_ltAt l b items items2 n n2 dd dd2 sl sl2 e r) ⟨ho, ho2, he, hr, h⟩
theorem oneLt_tuple {xs ys : List PyData} {a b : Value} {as bs : List Addr} {Q : Bool → Shared → Prop} (ra : Reads s.heap a (.tuple xs) as) (rb : Reads s.heap b (.tuple ys) bs) (h : alike (.tuple xs) (.tuple ys) = true)
    (hu : A.units + min (PyData.tuple xs).depth (PyData.tuple ys).depth < cLine) (hq : Q (dataLt (.tuple xs) (.tuple ys)) s) : wpAny (model prog w) A (oneLt' true a b) Q E s := by
  have hal : alikeAll xs ys = true := by simpa [alike] using h
  cases ra with
  | @tuple l o vs n _ as₁ h1 h2 h3 h4 =>
    cases rb with
    | @tuple l' o' vs' n' _ bs₁ k1 k2 k3 k4 =>
      have n1 : vs.size = xs.length := by simpa using SeqAt.ReadsAll.length _ _ _ h4
      have n2 : vs'.size = ys.length := by simpa using SeqAt.ReadsAll.length _ _ _ k4
      rw [dataLt_tuple, ← firstLt_toks xs ys hal, ← n1, ← n2] at hq
      rw [oneLt'_eq]
      simp only [if_true]
      refine wpAny_bind (wpAny_cRoomFor (SeqAt.room_here hu) ?_)
      refine wpAny_bind (wpAny_callSpecialIfBound?_slot (T := "tuple") ⟨_, h1, h2⟩ F.slot_tuple_lt (call_tuple_lt (e := SeqAt.pairEq xs ys) (r := fun j => dataLt (xs.getD j .none) (ys.getD j .none)) ⟨_, h1, h2, _, h3⟩ ⟨_, k1, k2, _, k3⟩ (fun j j1 j2 => ?_) (fun j j1 j2 hj => ?_) ?_))
      · have := eqAt_alikeAll xs ys A.in1 s vs.toList vs'.toList _ _ h4 k4 hal (SeqAt.room_in hu) j (by simpa using j1) (by simpa using j2)
        simpa using this
      · have := rcLt_alikeAll xs ys A.in1 s vs.toList vs'.toList _ _ h4 k4 hal (SeqAt.room_in hu) j (by simpa using j1) (by simpa using j2) hj
        simpa using this
      · exact wpAny_truthy_bool hq
/-- the first items, where there are some -/
def KFst (h : Heap) (v : Value) (f : Option Value) : Prop := ∃ a o xs n, v = .ref a ∧ h.get? a = some o ∧ o.cls = .type "tuple" ∧ o.data = .seq xs n ∧ xs[0]? = f
theorem firstsO {M : Model} : ∀ (vs : List Value) (fs : List (Option Value)) {Q : List (Option Value) → Shared → Prop}, EachIs (KFst s.heap) vs fs → Q fs s → wpAny M A (vs.mapM firstOfTuple') Q E s
  | [], _, _, t, h => by cases t; rw [List.mapM_nil]; exact wpAny_pure h
  | v :: vs, _, Q, t, h => by
    cases t with
    | @cons _ f _ fs t1 t =>
    obtain ⟨a, o, xs, n, rfl, ho, hc, hd, hf⟩ := t1
    rw [List.mapM_cons]
    refine wpAny_bind ?_
    rw [kas_first_eq]
    refine wpAny_bind (Looks.here (show Looks M s.heap (typeOf (.ref a)) o.cls from (Looks.ld ho).andThen .now) ?_)
    rw [hc, if_neg (by first | decide | simp)]
    refine wpAny_bind (listItems_at ho hd (wpAny_pure ?_))
    rw [hf]
    exact wpAny_bind (firstsO vs fs (Q := fun bs s' => wpAny M A (pure (f :: bs)) Q E s') t (wpAny_pure h))
theorem each_firsts {h : Heap} : ∀ {vs : List Value} {ds : List PyData}, EachIs (fun v d => ∃ as, Reads h v d as) vs ds → (∀ d, d ∈ ds → ∃ xs, d = .tuple xs) → ∃ fs, EachIs (KFst h) vs fs ∧ ∀ i : Nat, (∃ f, fs[i]? = some (some f)) ↔ ∃ x r, ds[i]? = some (.tuple (x :: r))
  | _, _, .nil, _ => ⟨[], .nil, fun i => by simp⟩
  | _, _, .cons (b := d) ⟨as, r⟩ t, ht => by
    obtain ⟨fs, h1, h2⟩ := each_firsts t fun d hd => ht d (List.mem_cons_of_mem _ hd)
    obtain ⟨xs, rfl⟩ := ht d (List.mem_cons_self ..)
    cases r with
    | @tuple a o vs n _ _ ho hc hd hr =>
      refine ⟨vs[0]? :: fs, .cons ⟨a, o, vs, n, rfl, ho, hc, hd, rfl⟩ h1, fun i => ?_⟩
      cases i with
      | succ i => simpa using h2 i
      | zero =>
        have n1 : vs.size = xs.length := by simpa using SeqAt.ReadsAll.length _ _ _ hr
        cases xs with
        | nil =>
          have z : vs.size = 0 := n1
          have : vs[0]? = none := by rw [Array.getElem?_eq_none_iff]; omega
          simp [this]
        | cons x r =>
          have hlt : 0 < vs.size := by rw [n1]; exact Nat.succ_pos _
          have : vs[0]? = some vs[0] := Array.getElem?_eq_getElem hlt
          simp [this]
end
end Av

/-! sorted(..) of lists, any data -/
namespace Av
open PySem L2
section
open PySem.W PySem.Calls PyProof.Rows
variable {prog : Program} {w : World} {A : Around} {E : Value → Shared → Prop} {s : Shared}
theorem EachIs.right {α β : Type} {R : α → β → Prop} : ∀ {as : List α} {bs : List β}, EachIs R as bs → ∀ b, b ∈ bs → ∃ a, a ∈ as ∧ R a b
  | _, _, .nil => fun b hb => nomatch hb
  | _, _, .cons h t => fun b hb => by
    rcases List.mem_cons.mp hb with rfl | hb
    · exact ⟨_, List.mem_cons_self .., h⟩
    · obtain ⟨a, h1, h2⟩ := EachIs.right t b hb
      exact ⟨a, List.mem_cons_of_mem _ h1, h2⟩
theorem sortsAt_tups {vs : List Value} {ds : List PyData} (e : EachIs (fun v d => ∃ as, Reads s.heap v d as) vs ds) (hal : AllAlike ds) (ht : ∀ d, d ∈ ds → ∃ xs, d = .tuple xs) (hn : PyData.tuple [] ∈ ds) (hu : ∀ d, d ∈ ds → A.units + d.depth < cLine) : SortsAt prog w A s (dataKind s.heap ds) vs := by
  have room : ∀ {d d' : PyData}, d ∈ ds → A.units + min d.depth d'.depth < cLine := fun {d d'} hd => Nat.lt_of_le_of_lt (Nat.add_le_add_left (Nat.min_le_left _ _) _) (hu d hd)
  refine ⟨fun v hv => ?_, ?_⟩
  · obtain ⟨d, hd, as, r⟩ := e.left v hv
    exact ⟨_, dataKind_some hal hd r⟩
  obtain ⟨fs, f1, f2⟩ := each_firsts e ht
  have hnall : ¬ (fs.toArray.all fun x => x.isSome) = true := by
    intro h
    obtain ⟨i, hi⟩ := List.getElem?_of_mem hn
    have hil : i < ds.length := (List.getElem?_eq_some_iff.mp hi).1
    have hfl : i < fs.length := by rw [← f1.length, e.length]; exact hil
    rw [List.all_toArray, List.all_eq_true] at h
    have q := h _ (List.getElem_mem hfl)
    obtain ⟨f, hf⟩ := Option.isSome_iff_exists.mp q
    obtain ⟨x, r, hx⟩ := (f2 i).mp ⟨f, by rw [List.getElem?_eq_getElem hfl, hf]⟩
    rw [hi] at hx
    cases hx
  have hkind : ∀ (E : Value → Shared → Prop) {Q : SortKind → Shared → Prop}, 2 ≤ vs.length → Q (if (fs.toArray[0]?.bind id).isSome then general' else oneType') s → wpAny (model prog w) A (keyKind' vs.toArray) Q E s := by
    intro E Q h2 hq
    rw [kat_kind_eq, List.mapM_toArray, map_eq_pure_bind]
    refine wpAny_bind (wpAny_bind (firstsO vs fs f1 (wpAny_pure ?_)))
    rw [if_neg hnall]
    by_cases h0 : (fs.toArray[0]?.bind id).isSome = true
    · rw [if_pos h0] at hq ⊢
      exact wpAny_pure hq
    · rw [if_neg h0] at hq ⊢
      rw [oneTypeOnly'_eq, List.mapM_toArray, map_eq_pure_bind]
      refine wpAny_bind (wpAny_bind (wpAny_bind (kas_mapM (r := Value.type "tuple") _ (fun v hv Q' hq => ?_) (wpAny_pure ?_))))
      · obtain ⟨d, hd, as, r⟩ := e.left v hv
        obtain ⟨xs, rfl⟩ := ht d hd
        exact (looks_reads r).here hq
      · have hall : ((List.map (fun _ => Value.type "tuple") vs).toArray.all fun x => x == Value.type "tuple") = true := by
          simp only [List.all_toArray, List.all_map, List.all_eq_true]
          intro _ _
          exact beq_self_eq_true _
        have h0 : (List.map (fun _ => Value.type "tuple") vs).toArray[0]? = some (Value.type "tuple") := by
          match vs, h2 with
          | [], h2 => simp at h2
          | [_], h2 => simp
          | v₁ :: v₂ :: rest, _ => simp
        rw [h0]
        simp only [hall, if_true]
        exact wpAny_pure (wpAny_pure hq)
  refine ⟨if (fs.toArray[0]?.bind id).isSome then general' else oneType', ?_, fun h2 E Q hq => hkind E h2 hq⟩
  intro E x y a b Q ha hb hq
  obtain ⟨d, as, hd, ra, rfl⟩ := dataKind_inv ha
  obtain ⟨d', as', hd', rb, rfl⟩ := dataKind_inv hb
  obtain ⟨xs, rfl⟩ := ht d hd
  obtain ⟨ys, rfl⟩ := ht d' hd'
  by_cases h0 : (fs.toArray[0]?.bind id).isSome = true
  · rw [if_pos h0]
    exact oneLt_alike (f := false) (fun z => nomatch z) ra rb (hal _ hd _ hd') (fun z => nomatch z) (room hd) hq
  · rw [if_neg h0, keyLt'_oneType]
    exact oneLt_tuple ra rb (hal _ hd _ hd') (room hd) hq
/-- what sorted(..) takes: all tuples, or none is a tuple or None; alike -/
def SortOk (ds : List PyData) : Prop := AllAlike ds ∧ ((∀ d, d ∈ ds → ∃ xs, d = .tuple xs) ∨ ∀ d, d ∈ ds → d ≠ .none ∧ ∀ xs, d ≠ .tuple xs)
theorem sortsAt_any {vs : List Value} {ds : List PyData} (e : EachIs (fun v d => ∃ as, Reads s.heap v d as) vs ds) (hk : SortOk ds) (hu : ∀ d, d ∈ ds → A.units + d.depth < cLine) : SortsAt prog w A s (dataKind s.heap ds) vs := by
  rcases hk.2 with ht | hn
  · by_cases hn : PyData.tuple [] ∈ ds
    · exact sortsAt_tups e hk.1 ht hn hu
    · refine SortsAt.data e hk.1 (.inl fun d hd => ?_) hu
      obtain ⟨xs, rfl⟩ := ht d hd
      cases xs with
      | nil => exact absurd hd hn
      | cons x r => exact ⟨x, r, rfl⟩
  · exact SortsAt.data e hk.1 (.inr hn) hu
theorem sorted_any {β : Type} {vs : List Value} {bs : List β} {enc : β → PyData} {R : Value → β → Prop} {l : Addr} {Q : Value → Shared → Prop} (hl : s.heap.IsList l vs.toArray) (e : EachIs R vs bs) (er : EachIs (fun v b => ∃ as, Reads s.heap v (enc b) as) vs bs) (hk : SortOk (bs.map enc)) (hL : bs.length ≤ sizeLine)
    (hu : ∀ b, b ∈ bs → A.units + 2 + (enc b).depth < cLine) (h : ∀ out, out.length = bs.length → EachIs R out (bs.mergeSort (dataLe false enc)) → Q (.ref (s.heap.objs.size + 1)) { s with heap := sortedAll s.heap vs (List.toArray out) }) :
    wpAny (model prog w) A (call (.builtin "sorted") [.ref l]) Q E s := by
  have er' : EachIs (fun v b => ∃ as, Reads (sortingHeap (copyHeap s.heap vs) (s.heap.objs.size + 1) vs) v (enc b) as) vs bs := er.mono fun _ _ ⟨as, r⟩ => ⟨as, PyProof.Rows.Reads.keeps (fun _ _ => sorting_copy_old) r⟩
  exact sorted_vals hl (sortsAt_any (s := { s with heap := sortingHeap (copyHeap s.heap vs) (s.heap.objs.size + 1) vs }) (each_map (R := fun v d => ∃ as, Reads (sortingHeap (copyHeap s.heap vs) (s.heap.objs.size + 1) vs) v d as) enc er') hk (bound_map hu)) (by rw [e.length]; exact hL)
    (h _ (by rw [sortVals_length false rfl]; exact e.length) (sortVals_data false e er' hk.1))
theorem each_flip {α β : Type} {R : α → β → Prop} : ∀ {as : List α} {bs : List β}, EachIs R as bs → Paired (fun b a => R a b) bs as
  | _, _, .nil => .nil
  | _, _, .cons h t => .cons h (each_flip t)
theorem flip_each {α β : Type} {R : β → α → Prop} : ∀ {bs : List β} {as : List α}, Paired R bs as → EachIs (fun a b => R b a) as bs
  | _, _, .nil => .nil
  | _, _, .cons h t => .cons h (flip_each t)
theorem paired_map {α β γ : Type} {R : β → α → Prop} (f : γ → β) : ∀ {cs : List γ} {as : List α}, Paired (fun c a => R (f c) a) cs as → Paired R (cs.map f) as
  | _, _, .nil => .nil
  | _, _, .cons h t => .cons h (paired_map f t)
theorem map_paired {α β γ : Type} {R : β → α → Prop} (f : γ → β) : ∀ {cs : List γ} {as : List α}, Paired R (cs.map f) as → Paired (fun c a => R (f c) a) cs as
  | [], _, h => by cases h; exact .nil
  | c :: cs, _, h => by cases h with | cons h t => exact .cons h (map_paired f t)
/-- sorted(xs), any data -/
def rSortD (K : PySem.W.Frag) : List V → Hp → VK → Prop := fun xs H Q => ∃ (a : Addr) (zs : List (PyData × V)), xs = [.ref a] ∧ SqL K H a (zs.map Prod.snd) ∧ (∀ z, z ∈ zs → Dp K H z.2 z.1 ∧ z.1.depth ≤ 60) ∧ SortOk (zs.map Prod.fst) ∧
  ∀ p, H p = none → Q (.ref p) (upd H p (.lst ((zs.mergeSort (dataLe false Prod.fst)).map Prod.snd)))
theorem cr_sortD {X : Cx} (hu : X.A.units + 64 < cLine) : CallR X (.builtin "sorted") (rSortD X.K) := by
  intro pins s σ H vs us Q I r h
  obtain ⟨a, zs, rfl, hs, hd, hk, q⟩ := h
  obtain ⟨its, rv, hl, hz⟩ := I.list hs
  rw [Vals.ref1 r]
  have e0 : EachIs (fun u (z : PyData × V) => RelV z.2 u) its zs := flip_each (map_paired (R := RelV) (fun z : PyData × V => z.2) rv)
  have er : EachIs (fun u (z : PyData × V) => ∃ as, Reads s.heap u z.1 as) its zs := (each_mem e0).mono fun u z ⟨h1, h2⟩ => Dp.reads I z.1 z.2 u (hd z h2).1 h1
  rw [List.length_map] at hz
  refine sorted_any (R := fun u (z : PyData × V) => RelV z.2 u) (enc := Prod.fst) hl.isList e0 er hk hz (fun z hz => by have := (hd z hz).2; omega) fun out ho eo => ?_
  obtain ⟨ep, he'⟩ := PyProof.Rows.sortedAll_at s.heap its out.toArray
  have hv : Vals ((zs.mergeSort (dataLe false Prod.fst)).map Prod.snd) out := paired_map (R := RelV) (fun z : PyData × V => z.2) (each_flip eo)
  have hlen : ((zs.mergeSort (dataLe false Prod.fst)).map Prod.snd).length ≤ sizeLine := by rw [List.length_map, List.length_mergeSort]; exact hz
  exact ⟨.ref _, upd H (s.heap.objs.size + 1) (.lst ((zs.mergeSort (dataLe false Prod.fst)).map Prod.snd)), I.laid (t' := s.toks) (fun _ _ => PyProof.Rows.sortedAll_old) (Nat.le_succ _) ⟨hlen, out, ep, hv, he'⟩, rfl, q _ (I.hok.fresh (Nat.le_succ _))⟩
end
end Av

/-! sorted(..) by data -/
namespace Av
open PySem L2
mutual
/-- <, as sorting has it, of alike data -/
def D.lt : D → D → Bool
  | .bl a, .bl b => !a && b
  | .int i, .int j => decide (i < j)
  | .str x, .str y => decide (x.cps.toList < y.cps.toList)
  | .lst xs, .lst ys => D.lts xs ys
  | .tup xs, .tup ys => D.lts xs ys
  | _, _ => false
def D.lts : List D → List D → Bool
  | [], [] => false
  | [], _ :: _ => true
  | _ :: _, [] => false
  | x :: xs, y :: ys => if D.eqv x y then D.lts xs ys else D.lt x y
end
mutual
def D.alike : D → D → Bool
  | .non, .non => true
  | .bl _, .bl _ => true
  | .int _, .int _ => true
  | .str _, .str _ => true
  | .lst xs, .lst ys => D.alikes xs ys
  | .tup xs, .tup ys => D.alikes xs ys
  | _, _ => false
def D.alikes : List D → List D → Bool
  | [], _ => true
  | _ :: _, [] => true
  | x :: xs, y :: ys => D.alike x y && D.alikes xs ys
end
open PySem.W in
mutual
theorem alike_toP : ∀ (d e : D), D.alike d e = true → PySem.W.alike (toP d) (toP e) = true
  | .non, e, h => by cases e <;> simp [toP, PySem.W.alike, D.alike] at *
  | .bl b, e, h => by cases e <;> simp [toP, PySem.W.alike, D.alike] at *
  | .int b, e, h => by cases e <;> simp [toP, PySem.W.alike, D.alike] at *
  | .str b, e, h => by cases e <;> simp [toP, PySem.W.alike, D.alike] at *
  | .lst xs, e, h => by
    cases e <;> simp [toP, PySem.W.alike, D.alike] at *
    exact alikes_toPs xs _ h
  | .tup xs, e, h => by
    cases e <;> simp [toP, PySem.W.alike, D.alike] at *
    exact alikes_toPs xs _ h
  | .dic b, e, h => by cases e <;> simp [D.alike] at h
  | .obj b c, e, h => by cases e <;> simp [D.alike] at h
theorem alikes_toPs : ∀ (d e : List D), D.alikes d e = true → PySem.W.alikeAll (toPs d) (toPs e) = true
  | [], [], h => by simp [toPs, PySem.W.alikeAll]
  | [], _ :: _, h => by simp [toPs, PySem.W.alikeAll]
  | _ :: _, [], h => by simp [toPs, PySem.W.alikeAll]
  | x :: xs, y :: ys, h => by
    simp only [D.alikes, Bool.and_eq_true] at h
    simp [toPs, PySem.W.alikeAll, alike_toP x y h.1, alikes_toPs xs ys h.2]
end
open PySem.W PySem.SeqAt PyProof.Rows in
mutual
theorem lt_toP : ∀ (d e : D), D.alike d e = true → dataLt (toP d) (toP e) = D.lt d e
  | .non, e, h => by
    cases e <;> simp [D.alike] at h
    show dataLt .none .none = _
    rw [D.lt]
    · exact lex_irrefl _
    all_goals (intros; simp_all)
  | .bl b, e, h => by
    cases e <;> simp [D.alike] at h
    rename_i k
    show dataLt (.bool b) (.bool k) = _
    rw [dataLt_bool, D.lt]
    cases b <;> cases k <;> decide
  | .int b, e, h => by
    cases e <;> simp [D.alike] at h
    rename_i k
    show dataLt (.int b) (.int k) = _
    rw [dataLt_int, D.lt]
  | .str b, e, h => by
    cases e <;> simp [D.alike] at h
    rename_i k
    show dataLt (.str b) (.str k) = _
    rw [dataLt_str, D.lt]
  | .lst xs, e, h => by
    cases e <;> simp [D.alike] at h
    rename_i ys
    show dataLt (.list (toPs xs)) (.list (toPs ys)) = _
    rw [dataLt_list, D.lt]
    exact lts_toPs xs ys h
  | .tup xs, e, h => by
    cases e <;> simp [D.alike] at h
    rename_i ys
    show dataLt (.tuple (toPs xs)) (.tuple (toPs ys)) = _
    rw [dataLt_tuple, D.lt]
    exact lts_toPs xs ys h
  | .dic b, e, h => by cases e <;> simp [D.alike] at h
  | .obj b c, e, h => by cases e <;> simp [D.alike] at h
theorem lts_toPs : ∀ (d e : List D), D.alikes d e = true → PyProof.Rows.lexLt itemOrd (keyToksAll (toPs d)) (keyToksAll (toPs e)) = D.lts d e
  | [], [], h => by
    rw [D.lts]
    exact lex_irrefl _
  | [], y :: ys, h => by
    rw [D.lts]
    show PyProof.Rows.lexLt itemOrd (keyToksAll []) (keyToksAll (toP y :: toPs ys)) = _
    rw [toks_all_cons]
    simp only [keyToksAll]
    rw [lex_diff (O := itemOrd) (by simp)]
    rfl
  | x :: xs, [], h => by
    rw [D.lts]
    show PyProof.Rows.lexLt itemOrd (keyToksAll (toP x :: toPs xs)) (keyToksAll []) = _
    rw [toks_all_cons]
    simp only [keyToksAll]
    rw [lex_diff (O := itemOrd) (by simp)]
    rfl
  | x :: xs, y :: ys, h => by
    simp only [D.alikes, Bool.and_eq_true] at h
    show PyProof.Rows.lexLt itemOrd (keyToksAll (toP x :: toPs xs)) (keyToksAll (toP y :: toPs ys)) = _
    rw [dataLt_cons (alike_toP x y h.1), eqv_toP, lts_toPs xs ys h.2, lt_toP x y h.1, D.lts]
end
/-! insertion sort -/
def ins {α : Type} (le : α → α → Bool) (x : α) : List α → List α
  | [] => [x]
  | y :: ys => if le x y then x :: y :: ys else y :: ins le x ys
def isort {α : Type} (le : α → α → Bool) : List α → List α
  | [] => []
  | x :: xs => ins le x (isort le xs)
section
variable {α β : Type} {le : α → α → Bool}
theorem ins_mem {x z : α} : ∀ {l : List α}, z ∈ ins le x l ↔ z = x ∨ z ∈ l
  | [] => by simp [ins]
  | y :: ys => by
    unfold ins
    split
    · simp
    · simp only [List.mem_cons, ins_mem (l := ys)]
      constructor
      · rintro (h | h | h) <;> simp [h]
      · rintro (h | h | h) <;> simp [h]
theorem isort_mem {z : α} : ∀ {l : List α}, z ∈ isort le l ↔ z ∈ l
  | [] => by simp [isort]
  | y :: ys => by
    unfold isort
    rw [ins_mem, isort_mem, List.mem_cons]
theorem ins_length {x : α} : ∀ {l : List α}, (ins le x l).length = l.length + 1
  | [] => rfl
  | y :: ys => by
    unfold ins
    split
    · rfl
    · simp [ins_length (l := ys)]
theorem isort_length : ∀ {l : List α}, (isort le l).length = l.length
  | [] => rfl
  | y :: ys => by
    unfold isort
    rw [ins_length, isort_length]
    rfl
theorem ins_pairwise (h : PySem.W.TotalLe le) {x : α} : ∀ {l : List α}, l.Pairwise (fun a b => le a b = true) → (ins le x l).Pairwise (fun a b => le a b = true)
  | [], _ => by simp [ins]
  | y :: ys, p => by
    unfold ins
    obtain ⟨p1, p2⟩ := List.pairwise_cons.mp p
    split
    · rename_i hxy
      refine List.pairwise_cons.mpr ⟨fun z hz => ?_, p⟩
      rcases List.mem_cons.mp hz with rfl | hz
      · exact hxy
      · exact h.trans _ _ _ hxy (p1 z hz)
    · rename_i hxy
      refine List.pairwise_cons.mpr ⟨fun z hz => ?_, ins_pairwise h p2⟩
      rcases ins_mem.mp hz with rfl | hz
      · exact (h.total z y).resolve_left hxy
      · exact p1 z hz
theorem ins_filter (h : PySem.W.TotalLe le) {x c : α} : ∀ {l : List α}, l.Pairwise (fun a b => le a b = true) → (ins le x l).filter (PySem.W.sameRank le c) = (x :: l).filter (PySem.W.sameRank le c)
  | [], _ => rfl
  | y :: ys, p => by
    unfold ins
    obtain ⟨p1, p2⟩ := List.pairwise_cons.mp p
    split
    · rfl
    · rename_i hxy
      rw [List.filter_cons, ins_filter h p2, List.filter_cons (x := x), List.filter_cons (x := x), List.filter_cons (x := y)]
      by_cases hx : PySem.W.sameRank le c x = true
      · have hy : ¬ PySem.W.sameRank le c y = true := by
          intro hy
          unfold PySem.W.sameRank at hx hy
          rw [Bool.and_eq_true] at hx hy
          exact hxy (h.trans _ _ _ hx.2 hy.1)
        rw [if_neg hy, if_neg hy]
      · rw [if_neg hx, if_neg hx]
theorem isort_pairwise (h : PySem.W.TotalLe le) : ∀ {l : List α}, (isort le l).Pairwise (fun a b => le a b = true)
  | [] => List.Pairwise.nil
  | x :: xs => ins_pairwise h (isort_pairwise h)
theorem isort_filter (h : PySem.W.TotalLe le) {c : α} : ∀ {l : List α}, (isort le l).filter (PySem.W.sameRank le c) = l.filter (PySem.W.sameRank le c)
  | [] => rfl
  | x :: xs => by
    unfold isort
    rw [ins_filter h (isort_pairwise h), List.filter_cons, isort_filter h, List.filter_cons]
theorem isort_merge (h : PySem.W.TotalLe le) {l : List α} : isort le l = l.mergeSort le := PySem.W.sort_unique h (isort_pairwise h) fun c => isort_filter h
theorem ins_map {le' : β → β → Bool} (f : α → β) {x : α} : ∀ {l : List α}, (∀ y ∈ l, le x y = le' (f x) (f y)) → (ins le x l).map f = ins le' (f x) (l.map f)
  | [], _ => rfl
  | y :: ys, h => by
    unfold ins
    rw [h y (List.mem_cons_self ..), List.map_cons]
    show _ = if le' (f x) (f y) = true then _ else _
    split
    · rfl
    · rw [List.map_cons, ins_map f fun z hz => h z (List.mem_cons_of_mem _ hz)]
theorem isort_map {le' : β → β → Bool} (f : α → β) : ∀ {l : List α}, (∀ x ∈ l, ∀ y ∈ l, le x y = le' (f x) (f y)) → (isort le l).map f = isort le' (l.map f)
  | [], _ => rfl
  | x :: xs, h => by
    unfold isort
    rw [ins_map (le' := le') f fun y hy => h x (List.mem_cons_self ..) y (List.mem_cons_of_mem _ (isort_mem.mp hy)), isort_map f fun x' hx y hy => h x' (List.mem_cons_of_mem _ hx) y (List.mem_cons_of_mem _ hy)]
    rfl
end
def D.le (a b : D) : Bool := !D.lt b a
def sortD (ds : List D) : List D := isort D.le ds
def D.tup? : D → Bool
  | .tup _ => true
  | _ => false
def D.plain? : D → Bool
  | .non => false
  | .tup _ => false
  | _ => true
/-- what sorted(..) takes -/
def sortOk (ds : List D) : Bool := D.okNs 60 ds && D.imms ds && (ds.all D.tup? || ds.all D.plain?) && ds.all fun d => ds.all fun e => D.alike d e
theorem toPs_map : ∀ ds : List D, toPs ds = ds.map toP
  | [] => rfl
  | d :: ds => by rw [toPs, toPs_map ds]; rfl
theorem okNs_mem : ∀ {ds : List D} {n : Nat} {d : D}, D.okNs n ds = true → d ∈ ds → d.okN n = true
  | [], n, d, _, h => nomatch h
  | x :: xs, n, d, h, hd => by
    simp only [D.okNs, Bool.and_eq_true] at h
    rcases List.mem_cons.mp hd with rfl | hd
    · exact h.1
    · exact okNs_mem h.2 hd
theorem imms_memE : ∀ {ds : List D} {d : D}, D.imms ds = true → d ∈ ds → d.imm = true
  | [], d, _, h => nomatch h
  | x :: xs, d, h, hd => by
    simp only [D.imms, Bool.and_eq_true] at h
    rcases List.mem_cons.mp hd with rfl | hd
    · exact h.1
    · exact imms_memE h.2 hd
theorem zip_mem {ds : List D} {vs : List V} {W : Wd} {H : Hp} (r : RepL W H ds vs) {z : D × V} (h : z ∈ ds.zip vs) : z.1 ∈ ds ∧ Rep W H z.1 z.2 := by
  obtain ⟨i, hi⟩ := List.getElem?_of_mem h
  rw [List.getElem?_zip_eq_some] at hi
  exact ⟨List.mem_of_getElem? hi.1, r.r i _ _ hi.1 hi.2⟩
def gSorted : List D → Option RV
  | [.lst ds] => if sortOk ds then some (.fresh (.lst (sortD ds))) else none
  | _ => none
section
variable {fx : Fx} {X : Cx}
theorem sort_data {ds : List D} {vs : List V} {W : Wd} {H : Hp} (r : RepL W H ds vs) (hk : sortOk ds = true) : ∃ zs : List (PyData × V), zs.map Prod.snd = vs ∧ (∀ z, z ∈ zs → Dp W.K H z.2 z.1 ∧ z.1.depth ≤ 60) ∧ SortOk (zs.map Prod.fst) ∧
    ∀ F, RepL W F ds vs → RepL W F (sortD ds) ((zs.mergeSort (PySem.W.dataLe false Prod.fst)).map Prod.snd) := by
  unfold sortOk at hk
  simp only [Bool.and_eq_true] at hk
  obtain ⟨⟨⟨k1, k2⟩, k3⟩, k4⟩ := hk
  rw [List.all_eq_true] at k4
  have al : ∀ d, d ∈ ds → ∀ e, e ∈ ds → D.alike d e = true := fun d hd e he => (List.all_eq_true.mp (k4 d hd)) e he
  have hsnd : ((ds.zip vs).map fun z : D × V => (toP z.1, z.2)).map Prod.snd = vs := by
    rw [List.map_map]
    show (ds.zip vs).map Prod.snd = vs
    exact List.map_snd_zip (by rw [r.n]; exact Nat.le_refl _)
  have hfst : ((ds.zip vs).map fun z : D × V => (toP z.1, z.2)).map Prod.fst = ds.map toP := by
    rw [List.map_map]
    show (ds.zip vs).map (fun z => toP z.1) = _
    have := List.map_fst_zip (l₁ := ds) (l₂ := vs) (by rw [r.n]; exact Nat.le_refl _)
    conv => rhs; rw [← this]
    rw [List.map_map]; rfl
  refine ⟨(ds.zip vs).map fun z => (toP z.1, z.2), hsnd, fun z hz => ?_, ?_, fun F rF => ?_⟩
  · obtain ⟨y, hy, rfl⟩ := List.mem_map.mp hz
    obtain ⟨h1, h2⟩ := zip_mem r hy
    exact ⟨h2.dp _ _ _ (okNs_mem k1 h1), (okN_can y.1 60 (okNs_mem k1 h1)).2⟩
  · rw [hfst]
    refine ⟨fun d hd d' hd' => ?_, ?_⟩
    · obtain ⟨y, hy, rfl⟩ := List.mem_map.mp hd
      obtain ⟨y', hy', rfl⟩ := List.mem_map.mp hd'
      exact alike_toP _ _ (al y hy y' hy')
    · rcases (Bool.or_eq_true _ _).mp k3 with t | t
      · refine .inl fun d hd => ?_
        obtain ⟨y, hy, rfl⟩ := List.mem_map.mp hd
        have := List.all_eq_true.mp t y hy
        cases y <;> first | exact ⟨_, rfl⟩ | (cases this; done)
      · refine .inr fun d hd => ?_
        obtain ⟨y, hy, rfl⟩ := List.mem_map.mp hd
        have := List.all_eq_true.mp t y hy
        cases y <;> first | (cases this; done) | exact ⟨fun z => (by cases z), fun xs z => (by cases z)⟩
  · have hm : ((ds.zip vs).map fun z : D × V => (toP z.1, z.2)).mergeSort (PySem.W.dataLe false Prod.fst) = (isort (fun a b : D × V => D.le a.1 b.1) (ds.zip vs)).map fun z : D × V => (toP z.1, z.2) := by
      rw [← isort_merge (le := PySem.W.dataLe false Prod.fst) (PySem.W.sortLe_total _ _ _), ← isort_map (le' := PySem.W.dataLe false Prod.fst) (fun z : D × V => (toP z.1, z.2)) fun x hx y hy => ?_]
      show (!D.lt y.1 x.1) = !PySem.W.dataLt (toP y.1) (toP x.1)
      rw [lt_toP _ _ (al _ (zip_mem r hy).1 _ (zip_mem r hx).1)]
    have hd : sortD ds = (isort (fun a b : D × V => D.le a.1 b.1) (ds.zip vs)).map Prod.fst := by
      rw [isort_map (le' := D.le) Prod.fst fun x _ y _ => rfl, List.map_fst_zip (by rw [r.n]; exact Nat.le_refl _)]
      rfl
    rw [hm, hd, List.map_map]
    refine ⟨by rw [List.length_map, List.length_map], fun i d v h1 h2 => ?_⟩
    rw [List.getElem?_map] at h1 h2
    cases e : (isort (fun a b : D × V => D.le a.1 b.1) (ds.zip vs))[i]? with
    | none => rw [e] at h1; cases h1
    | some z =>
      rw [e] at h1 h2
      cases h1
      cases h2
      exact (zip_mem rF (isort_mem.mp (List.mem_of_getElem? e))).2
theorem cs_sorted (hu : X.A.units + 64 < cLine) : CallS fx X (.builtin "sorted") gSorted := by
  refine ⟨_, cr_sortD hu, fun F G H sd σ ds vs rv Q S r h k => ?_⟩
  unfold gSorted at h
  split at h
  · split at h
    · rename_i ds hk
      cases h
      obtain ⟨v, rfl, q⟩ := r.one_inv
      obtain ⟨p, us, rfl, h1, h2⟩ := q.lst_inv
      obtain ⟨zs, e, z1, z2, z3⟩ := sort_data h2 hk
      have hi : D.imms ds = true := by
        unfold sortOk at hk
        simp only [Bool.and_eq_true] at hk
        exact hk.1.1.2
      refine ⟨p, zs, rfl, by rw [e]; exact h1, z1, z2, fun l hl => out_newLst S k (z3 F (RepL.immF S hi h2)) hl⟩
    · cases h
  · cases h
end
end Av

/-! sorted(set(..)) of a tuple of ints -/
namespace Av
open PySem L2
def uins (x : Int) : List Int → List Int
  | [] => [x]
  | y :: ys => if x < y then x :: y :: ys else if x = y then y :: ys else y :: uins x ys
def usort : List Int → List Int
  | [] => []
  | x :: xs => uins x (usort xs)
theorem uins_mem {x z : Int} : ∀ {l : List Int}, z ∈ uins x l ↔ z = x ∨ z ∈ l
  | [] => by simp [uins]
  | y :: ys => by
    unfold uins
    split
    · simp
    · split
      · rename_i h; subst h; simp
      · simp only [List.mem_cons, uins_mem (l := ys)]
        constructor
        · rintro (h | h | h) <;> simp [h]
        · rintro (h | h | h) <;> simp [h]
theorem usort_mem {z : Int} : ∀ {l : List Int}, z ∈ usort l ↔ z ∈ l
  | [] => by simp [usort]
  | y :: ys => by
    unfold usort
    rw [uins_mem, usort_mem, List.mem_cons]
theorem uins_pairwise {x : Int} : ∀ {l : List Int}, l.Pairwise (· < ·) → (uins x l).Pairwise (· < ·)
  | [], _ => by simp [uins]
  | y :: ys, p => by
    unfold uins
    obtain ⟨p1, p2⟩ := List.pairwise_cons.mp p
    split
    · rename_i hxy
      refine List.pairwise_cons.mpr ⟨fun z hz => ?_, p⟩
      rcases List.mem_cons.mp hz with rfl | hz
      · exact hxy
      · have := p1 z hz; omega
    · split
      · exact p
      · refine List.pairwise_cons.mpr ⟨fun z hz => ?_, uins_pairwise p2⟩
        rcases uins_mem.mp hz with rfl | hz
        · omega
        · exact p1 z hz
theorem usort_pairwise : ∀ {l : List Int}, (usort l).Pairwise (· < ·)
  | [] => List.Pairwise.nil
  | x :: xs => uins_pairwise usort_pairwise
theorem strict_unique : ∀ {l m : List Int}, l.Pairwise (· < ·) → m.Pairwise (· < ·) → (∀ k, k ∈ l ↔ k ∈ m) → l = m
  | [], [], _, _, _ => rfl
  | [], y :: ys, _, _, h => by have := (h y).mpr (List.mem_cons_self ..); simp at this
  | x :: xs, [], _, _, h => by have := (h x).mp (List.mem_cons_self ..); simp at this
  | x :: xs, y :: ys, p, q, h => by
    obtain ⟨p1, p2⟩ := List.pairwise_cons.mp p
    obtain ⟨q1, q2⟩ := List.pairwise_cons.mp q
    have hxy : x = y := by
      have a := (h x).mp (List.mem_cons_self ..)
      have b := (h y).mpr (List.mem_cons_self ..)
      rcases List.mem_cons.mp a with a | a
      · exact a
      · rcases List.mem_cons.mp b with b | b
        · exact b.symm
        · have := p1 y b; have := q1 x a; omega
    subst hxy
    rw [strict_unique p2 q2 fun k => ?_]
    have hk := h k
    simp only [List.mem_cons] at hk
    constructor
    · intro m
      have := p1 k m
      rcases hk.mp (.inr m) with e | e
      · omega
      · exact e
    · intro m
      have := q1 k m
      rcases hk.mpr (.inr m) with e | e
      · omega
      · exact e
def intsOf : List D → Option (List Int)
  | [] => some []
  | .int i :: r => (intsOf r).map (i :: ·)
  | _ => none
theorem intsOf_eq : ∀ {ds : List D} {ns : List Int}, intsOf ds = some ns → ds = ns.map D.int
  | [], ns, h => by cases h; rfl
  | d :: ds, ns, h => by
    cases d <;> try (cases h; done)
    rename_i i
    simp only [intsOf, Option.map_eq_some_iff] at h
    obtain ⟨ms, h1, rfl⟩ := h
    rw [intsOf_eq h1]
    rfl
theorem intsOf_map : ∀ (ns : List Int), intsOf (ns.map D.int) = some ns
  | [] => rfl
  | n :: ns => by
    show (intsOf (ns.map D.int)).map (n :: ·) = _
    rw [intsOf_map ns]
    rfl
section
variable {fx : Fx} {X : Cx} {Wx : WX} {e a b c : Expr} {pos : Pos}
def rSetT (w : World) (K : PySem.W.Frag) : List V → Hp → VK → Prop := fun vs H Q => ∃ (l : Addr) (ns : List Int), vs = [.ref l] ∧ SqT K H l (ns.map V.int) ∧ ns.length < 64 ∧
  ∀ p c, c ≤ ns.length → H p = none → Q (.ref p) (upd H p (SetO w p (fun j => decide (j ∈ ns)) c))
theorem cr_setT (hc : X.calm = true) : CallR X (.type "set") (rSetT X.w X.K) := by
  intro pins s σ H vs us Q I r h
  obtain ⟨l, ns, rfl, hs, h64, q⟩ := h
  obtain ⟨its, rv, hl, hz⟩ := I.tuple hs
  rw [Vals.ref1 r]
  refine call_set_tupI ns (I.ok.hd hc) hl (by simpa using ints_of_vals rv) (by have : scanBound = 4096 := rfl; omega) fun h' tk c hS hc hk => ?_
  exact ⟨.ref _, upd H s.heap.objs.size (SetO X.w s.heap.objs.size (fun j => decide (j ∈ ns)) c), I.laid (t' := tk) hk (Nat.le_refl _) (setO_new hS), rfl, q _ c hc (I.hok.fresh (Nat.le_refl _))⟩
def gSortSet : D → Option RV
  | .tup ds => (intsOf ds).bind fun ns => if ns.length < 64 then some (.fresh (.lst ((usort ns).map D.int))) else none
  | _ => none
def mSortSet (ma : M RV) : M RV := mUn gSortSet ma
theorem se_sortSet {p p2 pos2 : Pos} {ma : M RV} (hc : X.calm = true) (hg : Gl X "sorted") (hm : X.mg "sorted" = none) (hg2 : Gl X "set") (hm2 : X.mg "set" = none) (ha : SE fx X Wx a ma)
    (na2 : starEach [a] X.env = (false, eval a X.env) :: starEach [] X.env := by rfl) (na : starEach [.Call (.Name "set" p2) [a] [] pos2] X.env = (false, eval (.Call (.Name "set" p2) [a] [] pos2) X.env) :: starEach [] X.env := by rfl)
    (hpl : (backTo pos (starEach [] X.env)).any (·.1) = false := by rfl) (hpl2 : (backTo pos2 (starEach [] X.env)).any (·.1) = false := by rfl) :
    SE fx X Wx (.Call (.Name "sorted" p) [.Call (.Name "set" p2) [a] [] pos2] [] pos) (mSortSet ma) := by
  obtain ⟨t, pa, q⟩ := ha.ex
  have pset : PE X (.Call (.Name "set" p2) [a] [] pos2) _ := pe_callTy (cr_setT hc) hg2 hm2 PyProof.Rows.boot_set (pa_cons pa pa_nil na2) (by decide) (by decide) na2 hpl2
  refine ⟨_, pe_callB (cr_sortedSet hc) hg hm (by rfl) (pa_cons pset pa_nil na) (by decide) (by decide) na hpl, fun F G H sd σ Q S h => one q S h fun F1 G1 H1 sd1 ra v e1 e2 S1 r1 h1 => ?_⟩
  obtain ⟨d, k1, h2⟩ := h1.read
  obtain ⟨rv, k2, h3⟩ := h2.get
  have r := r1.read S1 k1
  clear h h1 h2
  cases d <;> try (cases k2; done)
  rename_i ds
  unfold gSortSet at k2
  rw [Option.bind_eq_some_iff] at k2
  obtain ⟨ns, k3, k4⟩ := k2
  split at k4
  · rename_i h64
    cases k4
    have := intsOf_eq k3
    subst this
    obtain ⟨l, vs, rfl, s1, l1⟩ := r.tup_inv
    obtain rfl := l1.ints
    refine ⟨l, ns, rfl, s1, h64, fun p c hcn hp => ?_⟩
    have S2 := S1.newOwn (o := SetO X.w p (fun j => decide (j ∈ ns)) c) hp (fun _ z => by cases z) (fun _ _ z => by cases z)
    refine ⟨p, _, c, rfl, upd_same, by omega, fun ms p2 hm1 hm2 hm3 hp2 => ?_⟩
    have em : ms = usort ns := strict_unique hm1 usort_pairwise fun k => by rw [hm2, usort_mem]; simp
    subst em
    exact out_newLst S2 (fun F' G' H' w => h3 F' G' H' w) (RepL.of_ints _) hp2
  · cases k4
end
end Av

/-! what the printed derivations use; defs that may be called; the end -/
namespace Av
open PySem L2 PySem.Spec PyProof.Rows
section
variable {fx : Fx} {X : Cx} {Wx : WX} {e a b c : Expr} {pos : Pos}
theorem se_v (i : Nat) {x : Str} (hN : X.N[i]? = some x := by rfl) (hv : Vis X.env.scope x := by first | exact Or.inl rfl | exact Or.inr (Or.inl rfl) | exact Or.inr (Or.inr rfl)) (hd : (x == ("__debug__" : Str)) = false := by decide) (hcd : (x == ("__classdict__" : Str)) = false := by decide) : SE fx X Wx (.Name x pos) (mVar i) := se_var i hN hv hd hcd
theorem sg_v (i : Nat) {x : Str} (hN : X.N.Nodup) (hi : X.N[i]? = some x := by rfl) (hx : Loc X.env.scope x := by first | exact Or.inl rfl | exact Or.inr rfl) (hf : X.fn x = true ∨ X.env.scope.names.lookup x = some .local := by first | exact .inl rfl | exact .inr rfl) : SG fx X (.Name x pos) [i] (putSlot i) := sg_name hN hi hx hf
def gNeg : D → Option RV
  | .int i => some (.val (.int (-i)))
  | _ => none
theorem os_neg : OpS1 fx X (unaryOp .USub) gNeg := by
  refine ⟨_, un_neg, fun F G H sd σ x v rv Q S r h k => ?_⟩
  unfold gNeg at h
  split at h
  · cases h
    obtain rfl := r.int_inv
    exact ⟨_, rfl, out_flat S k (.int _)⟩
  · cases h
theorem takesNo : Takes X (fun _ _ _ _ => False) := fun u s' ⟨a, B, sI, pins, σ, H, cls, d, e, I, nb, up, sky, na, os, ag, w⟩ => w.elim
theorem u64 {k : Nat} {A : Around} (r : Room k A) : A.units + 64 < cLine := by have := r.un; omega
theorem u65 {k : Nat} {A : Around} (r : Room k A) : A.units + 65 < cLine := by have := r.un; omega
/-- a def that may be called -/
structure Can (P : Program) (w : World) (K : PySem.W.Frag) (mg : Str → Option Value) (base : Heap) (k : Nat) (x : Str) (ps : List Str) (sp : Sp) : Prop where
  ex : ∃ f fd, FnOk P w K mg base (L2.CX P w) k f fd ps sp ∧ mg x = some (.ref f) ∧ PySem.W.keepIn K (.ref f) = true ∧ Binds K fd ps []
/-- a def's text -/
structure Src (K : PySem.W.Frag) (mg : Str → Option Value) (x : Str) (st : Stmt) (ps : List Str) : Prop where
  ex : ∃ f fd, Fun K x x st f fd ∧ mg x = some (.ref f) ∧ Binds K fd ps []
section
variable {P : Program} {w : World} {K : PySem.W.Frag} {mg : Str → Option Value} {base : Heap}
theorem Can.of {x : Str} {st : Stmt} {N ps : List Str} {k : Nat} {ios : List Nat} {body : MS} (F : Src K mg x st ps) (S : FnScope N ps (defScope st))
    (hbody : ∀ (f : Addr) (cdv : Value) (A : Around) (outer : List Env) (s : Shared) (H : Hp) (E : XK) (fx : Fx), Room k (A.deeper (envOfC x (defScope st) s.heap.objs.size f cdv)) →
      SSs fx (cxOf (L2.CX P w) P w K mg base N x (defScope st) f cdv A outer s H E) (fun c d _ H => E c d H) (defBody st) body) :
    Can P w K mg base (k + 1) x ps (spD ⟨K, mg⟩ ios (mDef ps.length N.length ios body)) := by
  obtain ⟨f, fd, h1, h2, h3⟩ := F.ex
  exact ⟨f, fd, def_ok h1 S (hbody f), h2, h1.kp, h3⟩
theorem Can.no {x : Str} {st : Stmt} {ps : List Str} {k : Nat} {ios : List Nat} (F : Src K mg x st ps) : Can P w K mg base k x ps (spD ⟨K, mg⟩ ios fun _ => .fail) := by
  obtain ⟨f, fd, h1, h2, h3⟩ := F.ex
  exact ⟨f, fd, ⟨fun vs H Q E ⟨_, _, _, _, _, _, _, h⟩ => h.elim, fun A outer s H args us vs Q E _ _ _ _ ⟨_, _, _, _, _, _, _, h⟩ => h.elim⟩, h2, h1.kp, h3⟩
theorem Can.mono {x : Str} {ps : List Str} {j k : Nat} {sp : Sp} (C : Can P w K mg base j x ps sp) (h : j ≤ k) : Can P w K mg base k x ps sp := by
  obtain ⟨f, fd, h1, h2, h3, h4⟩ := C.ex
  exact ⟨f, fd, h1.mono h, h2, h3, h4⟩
end
theorem se_own {k j : Nat} {ps : List Str} {ios : List Nat} {mf : MF} {x : Str} {p : Pos} {es : List Expr} {ma : M (List RV)} (C : Can X.prog X.w X.K X.mg X.base k x ps (spD (wd X) ios mf)) (tk : Takes X Wx) (hr : Room j X.A) (ha : SA fx X Wx (e :: es) ma) (hkj : k ≤ j := by decide) (hg : Gl X x := by rfl)
    (nd : ios.Nodup := by decide) (hdb : (x == ("__debug__" : Str)) = false := by decide) (he : starEach (e :: es) X.env = (false, eval e X.env) :: starEach es X.env := by rfl) (hpl : (backTo pos (starEach es X.env)).any (·.1) = false := by rfl) :
    SE fx X Wx (.Call (.Name x p) (e :: es) [] pos) (mCall ios mf ma) := by
  have h := C.ex
  exact se_call (Classical.choose_spec (Classical.choose_spec h)).1 tk (hr.mono hkj) hg (Classical.choose_spec (Classical.choose_spec h)).2.1 (Classical.choose_spec (Classical.choose_spec h)).2.2.1 (Classical.choose_spec (Classical.choose_spec h)).2.2.2 ha nd hdb he hpl
end
/-- the law's own promise -/
theorem law_sp {W : Wd} {mf : MF} {H : Hp} {a : Addr} {ns : List Int} {Q : VK} {E : XK} (hS : SqL W.K H a (ns.map V.int)) (h : mf [.sh (.lst (ns.map D.int))] = .ok (.val (.bl true)) []) (hq : ∀ H', Q (.bl true) H') : spD W [] mf [.ref a] H Q E := by
  have rp : Rep W H (.lst (ns.map D.int)) (.ref a) := (RepL.of_ints ns).lst hS
  refine ⟨H, H, [], [.sh (.lst (ns.map D.int))], ⟨⟨Same.refl _, fun a o e => .inl e, Same.refl _, fun a o e => .inl e, Same.refl _, Same.refl _, fun a e => e, fun a xs r => rfl, fun a o hm => by simp at hm⟩, rfl, fun i s e => ?_, fun i j s s' b e1 e2 m1 m2 p1 p2 => ?_, fun b o hm => by simp at hm⟩, fun a o e _ => e, fun i hi => by simp at hi, ?_⟩
  · cases i with
    | zero => cases e; exact ⟨_, rfl, rp⟩
    | succ i => simp at e
  · cases i with
    | zero => cases e1; cases m1
    | succ i => simp at e1
  · rw [h]
    intro v F' G' H' hr rr _
    rw [Rep.bl_inv rr]
    exact hq H'
def spLaw (K : PySem.W.Frag) : Sp := fun vs H Q _ => ∃ (a : Addr) (ns : List Int), vs = [.ref a] ∧ SqL K H a (ns.map V.int) ∧ ns.length ≤ 63 ∧ ∀ H', Q (.bl true) H'
theorem law_imp {A : FuncData → Prop} {B : Heap → Prop} {C : Heap → Prop} {P : Program} {w : World} {K : PySem.W.Frag} {mg : Str → Option Value} {k : Nat} {fa : Addr} {ps : List Str} {mf : MF} {cx : CXT} (hm : ∀ ns : List Int, ns.length ≤ 63 → mf [.sh (.lst (ns.map D.int))] = .ok (.val (.bl true)) [])
    (h : ∃ fd : FuncData, A fd ∧ ∀ base : Heap, B base → C base → FnOk P w K mg base cx k fa fd ps (spD ⟨K, mg⟩ [] mf)) : ∃ fd : FuncData, A fd ∧ ∀ base : Heap, B base → C base → FnOk P w K mg base cx k fa fd ps (spLaw K) := by
  obtain ⟨fd, h1, h2⟩ := h
  refine ⟨fd, h1, fun base b c => (h2 base b c).imp fun vs H Q E ⟨a, ns, e, hS, hl, hq⟩ => ?_⟩
  subst e
  exact law_sp hS (hm ns hl) hq
theorem law_CX {P : Program} {w : World} (H : Hp) (s : Shared) (e : Value) (s' : Shared) (h : L2.CX P w [] H s (fun _ _ _ => False) e s') : False := by
  obtain ⟨a, B, H', cls, d, _, _, _, _, _, _, _, z⟩ := h
  exact z
end Av

/-! simp equations by constructors: mirrors run on slots that are known -/
namespace Av
open PySem L2
section
variable {α β : Type} {a : α} {sd sd' : List SV} {d e : D} {i j : Nat}
def rdS (s : SV) (i : Nat) (sd : List SV) : R RV := match s with
  | .no => .fail
  | .sh d => .ok (.val d) sd
  | .bor d => .ok (.bval d) sd
  | .own _ => .ok (.slot i) sd
  | .io _ => .ok (.slot i) sd
@[simp] theorem mVar_eq : mVar i sd = rdS (sd[i]?.getD .no) i sd := rfl
@[simp] theorem rdS_sh : rdS (.sh d) i sd = .ok (.val d) sd := rfl
@[simp] theorem rdS_bor : rdS (.bor d) i sd = .ok (.bval d) sd := rfl
@[simp] theorem rdS_own : rdS (.own d) i sd = .ok (.slot i) sd := rfl
@[simp] theorem rdS_io : rdS (.io d) i sd = .ok (.slot i) sd := rfl
@[simp] theorem rdS_no : rdS .no i sd = .fail := rfl
@[simp] theorem bind_ok {f : α → M β} : (R.ok a sd).bind f = f a sd := rfl
@[simp] theorem bind_exc {f : α → M β} {x : Xn} : (R.exc x sd : R α).bind f = .exc x sd := rfl
@[simp] theorem bind_fail {f : α → M β} : (R.fail : R α).bind f = .fail := rfl
@[simp] theorem mBind_eq {m : M α} {f : α → M β} : mBind m f sd = (m sd).bind f := rfl
@[simp] theorem mPure_eq : mPure a sd = .ok a sd := rfl
@[simp] theorem mFail_eq : (mFail : M α) sd = .fail := rfl
@[simp] theorem mGet_some : mGet (some a) sd = .ok a sd := rfl
@[simp] theorem mGet_none : mGet (none : Option α) sd = .fail := rfl
@[simp] theorem mC_eq : mC d sd = .ok (.val d) sd := rfl
@[simp] theorem keep_val : (RV.val d).keep = .val d := rfl
@[simp] theorem keep_bval : (RV.bval d).keep = .bval d := rfl
@[simp] theorem keep_slot : (RV.slot i).keep = .slot i := rfl
@[simp] theorem keep_fresh : (RV.fresh d).keep = .val d := rfl
@[simp] theorem svd_sh : (SV.sh d).d? = some d := rfl
@[simp] theorem svd_bor : (SV.bor d).d? = some d := rfl
@[simp] theorem svd_own : (SV.own d).d? = some d := rfl
@[simp] theorem svd_io : (SV.io d).d? = some d := rfl
@[simp] theorem mRead_val : mRead (.val d) sd = .ok d sd := rfl
@[simp] theorem mRead_bval : mRead (.bval d) sd = .ok d sd := rfl
@[simp] theorem mRead_fresh : mRead (.fresh d) sd = .ok d sd := rfl
@[simp] theorem mRead_slot : mRead (.slot i) sd = mGet (sd[i]?.getD .no).d? sd := by
  show (match (sd[i]?.getD SV.no).d? with | some d => R.ok d sd | none => R.fail) = _
  generalize (sd[i]?.getD SV.no).d? = o
  cases o <;> rfl
variable {g g' : D → D → Option RV} {ma mb mc : M RV} {ta tb : M Bool}
@[simp] theorem mOp_eq : mOp g ma mb sd = (ma sd).bind fun ra => mBind mb fun rb => mBind (mRead ra.keep) fun x => mBind (mRead rb.keep) fun y => mGet (g x y) := rfl
@[simp] theorem mUn_eq {g : D → Option RV} : mUn g ma sd = (ma sd).bind fun ra => mBind (mRead ra.keep) fun x => mGet (g x) := rfl
@[simp] theorem rvb_bl {b : Bool} : (RV.val (.bl b)).b? = some b := rfl
@[simp] theorem mCmpT_eq : mCmpT g ma mb sd = (mOp g ma mb sd).bind fun r => mGet r.b? := rfl
@[simp] theorem mB_eq : mB ma sd = (ma sd).bind fun r => mGet r.b? := rfl
@[simp] theorem mChain_eq : mChain g g' ma mb mc sd = (ma sd).bind fun ra => mBind mb fun rb => mBind (mRead ra.keep) fun x => mBind (mRead rb.keep) fun y => mBind (mGet (g x y)) fun r => mBind (mGet r.b?) fun k => if k then mBind mc fun rc => mBind (mRead rb.keep) fun y => mBind (mRead rc.keep) fun z => mGet (g' y z) else mPure (.val (.bl false)) := rfl
@[simp] theorem mTruth_eq : mTruth ma sd = (ma sd).bind fun r => mBind (mRead r.keep) fun d => mGet (truthD d) := rfl
@[simp] theorem mAndT_eq : mAndT ta tb sd = (ta sd).bind fun k => if k then tb else mPure false := rfl
@[simp] theorem mOrT_eq : mOrT ta tb sd = (ta sd).bind fun k => if k then mPure true else tb := rfl
@[simp] theorem mNotT_eq : mNotT ta sd = (ta sd).bind fun k => mPure (!k) := rfl
@[simp] theorem mAndV_eq : mAndV ma mb sd = (ma sd).bind fun r => mBind (mGet r.keep.b?) fun k => if k then mb else mPure (.val (.bl false)) := rfl
@[simp] theorem mOrV_eq : mOrV ma mb sd = (ma sd).bind fun r => mBind (mGet r.keep.b?) fun k => if k then mPure (.val (.bl true)) else mb := rfl
@[simp] theorem mNotV_eq : mNotV ma sd = (ma sd).bind fun r => mBind (mGet r.keep.b?) fun k => mPure (.val (.bl (!k))) := rfl
@[simp] theorem mIf_eq : mIf ta ma mb sd = (ta sd).bind fun k => if k then ma else mb := rfl
@[simp] theorem mIsN_eq : mIsN ma sd = (ma sd).bind fun r => mBind (mRead r.keep) fun d => mPure (.val (.bl d.isNon)) := rfl
@[simp] theorem mNotN_eq : mNotN ma sd = (ma sd).bind fun r => mBind (mRead r.keep) fun d => mPure (.val (.bl !d.isNon)) := rfl
@[simp] theorem mNil_eq : mNil sd = .ok [] sd := rfl
variable {ms : M (List RV)} {r : RV} {rs : List RV}
@[simp] theorem mCons_eq : mCons ma ms sd = (ma sd).bind fun r => mBind ms fun rs => mPure (r.keep :: rs) := rfl
@[simp] theorem mReads_nil : mReads [] sd = .ok [] sd := rfl
@[simp] theorem mReads_cons : mReads (r :: rs) sd = (mRead r.keep sd).bind fun d => mBind (mReads rs) fun ds => mPure (d :: ds) := rfl
@[simp] theorem mShare_val : mShare (.val d) sd = .ok d sd := rfl
@[simp] theorem mShare_fresh : mShare (.fresh d) sd = .ok d sd := rfl
@[simp] theorem mShare_bval : mShare (.bval d) sd = if d.imm then .ok d sd else .fail := rfl
def shS (s : SV) (i : Nat) (sd : List SV) : R D := match s with
  | .own d => .ok d (sd.set i (.sh d))
  | .sh d => .ok d sd
  | _ => .fail
@[simp] theorem mShare_slot : mShare (.slot i) sd = shS (sd[i]?.getD .no) i sd := rfl
@[simp] theorem shS_own : shS (.own d) i sd = .ok d (sd.set i (.sh d)) := rfl
@[simp] theorem shS_sh : shS (.sh d) i sd = .ok d sd := rfl
@[simp] theorem mShares_nil : mShares [] sd = .ok [] sd := rfl
@[simp] theorem mShares_cons : mShares (r :: rs) sd = (mShare r sd).bind fun d => mBind (mShares rs) fun ds => mPure (d :: ds) := rfl
@[simp] theorem mTup_eq : mTup ms sd = (ms sd).bind fun rs => mBind (mShares rs) fun ds => if ds.length ≤ sizeLine then mPure (.val (.tup ds)) else mFail := rfl
@[simp] theorem mLst_eq : mLst ms sd = (ms sd).bind fun rs => mBind (mShares rs) fun ds => if ds.length ≤ sizeLine then mPure (.fresh (.lst ds)) else mFail := rfl
@[simp] theorem mCallB_eq {g : List D → Option RV} : mCallB g ms sd = (ms sd).bind fun rs => mBind (mReads rs) fun ds => mGet (g ds) := rfl
@[simp] theorem mIsa_eq {T : String} : mIsa T ma sd = (ma sd).bind fun r => mBind (mRead r.keep) fun d => mBind (mGet (isaD T d)) fun k => mPure (.val (.bl k)) := rfl
@[simp] theorem elem_val : elemOf sd (.val e) d = some (.val d) := rfl
@[simp] theorem elem_fresh : elemOf sd (.fresh e) d = some (.val d) := rfl
@[simp] theorem elem_bval : elemOf sd (.bval e) d = some (if d.imm then .val d else .bval d) := rfl
def elS (s : SV) (d : D) : Option RV := match s with
  | .own _ => some (.val d)
  | .io _ => some (.val d)
  | _ => none
@[simp] theorem elem_slot : elemOf sd (.slot i) d = elS (sd[i]?.getD .no) d := rfl
@[simp] theorem elS_own : elS (.own e) d = some (.val d) := rfl
@[simp] theorem elS_io : elS (.io e) d = some (.val d) := rfl
@[simp] theorem gIx_tup {xs : List D} {k : Int} : gIx sd r (.tup xs) (.int k) = (atI xs k).bind (elemOf sd r) := rfl
@[simp] theorem gIx_lst {xs : List D} {k : Int} : gIx sd r (.lst xs) (.int k) = (atI xs k).bind (elemOf sd r) := rfl
def mIx2 (ra : RV) (x y : D) : M RV := fun sd => mGet (gIx sd ra.keep x y) sd
@[simp] theorem mIx2_tup {xs : List D} {k : Int} : mIx2 r (.tup xs) (.int k) sd = mGet ((atI xs k).bind (elemOf sd r.keep)) sd := rfl
@[simp] theorem mIx2_lst {xs : List D} {k : Int} : mIx2 r (.lst xs) (.int k) sd = mGet ((atI xs k).bind (elemOf sd r.keep)) sd := rfl
@[simp] theorem mIx_eq : mIx ma mb sd = (ma sd).bind fun ra => mBind mb fun rb => mBind (mRead ra.keep) fun x => mBind (mRead rb.keep) fun y => mIx2 ra x y := rfl
@[simp] theorem mNoPart_eq : mNoPart sd = .ok none sd := rfl
@[simp] theorem int?_int {k : Int} : (D.int k).int? = some k := rfl
@[simp] theorem mPart_eq : mPart ma sd = (ma sd).bind fun r => mBind (mRead r.keep) fun d => mBind (mGet d.int?) fun i => mPure (some i) := rfl
@[simp] theorem mSl_eq {ml mh : M (Option Int)} : mSl ma ml mh sd = (ma sd).bind fun ra => mBind ml fun lo => mBind mh fun hi => mBind (mRead ra.keep) fun x => mGet (gSl x lo hi) := rfl
def owS (s : SV) (sd : List SV) : R D := match s with
  | .own d => .ok d sd
  | .io d => .ok d sd
  | _ => .fail
@[simp] theorem mOwn_eq : mOwn i sd = owS (sd[i]?.getD .no) sd := rfl
@[simp] theorem owS_own : owS (.own d) sd = .ok d sd := rfl
@[simp] theorem owS_io : owS (.io d) sd = .ok d sd := rfl
def puS (s : SV) (i : Nat) (d : D) (sd : List SV) : R Unit := match s with
  | .own _ => .ok () (sd.set i (.own d))
  | .io _ => .ok () (sd.set i (.io d))
  | _ => .fail
@[simp] theorem mPutOwn_eq : mPutOwn i d sd = puS (sd[i]?.getD .no) i d sd := rfl
@[simp] theorem puS_own : puS (.own e) i d sd = .ok () (sd.set i (.own d)) := rfl
@[simp] theorem puS_io : puS (.io e) i d sd = .ok () (sd.set i (.io d)) := rfl
@[simp] theorem mMut_eq {kd : D → Bool} {g : D → List D → Option (D × D)} : mMut kd g i ms sd = (mOwn i sd).bind fun x0 => if kd x0 then mBind ms fun rs => mBind (mShares rs) fun ds => mBind (mOwn i) fun x => mBind (mGet (g x ds)) fun y => mBind (mPutOwn i y.1) fun _ => mPure (.val y.2) else mFail := rfl
@[simp] theorem isLst_lst {xs : List D} : D.isLst (.lst xs) = true := rfl
@[simp] theorem gAppend_eq {xs : List D} : gAppend (.lst xs) [d] = if xs.length < sizeLine then some (.lst (xs ++ [d]), .non) else none := rfl
@[simp] theorem gSetL_eq {xs : List D} {k : Int} : gSetL (.lst xs) (.int k) d = (ixN xs.length k).map fun j => .lst (xs.set j d) := rfl
/-! statements -/
def thenR (r : R α) (k : α → MS) : RS := match r with
  | .ok a sd => k a sd
  | .exc x sd => .exc x sd
  | .fail => .fail
@[simp] theorem mThen_eq {m : M α} {k : α → MS} : mThen m k sd = thenR (m sd) k := rfl
@[simp] theorem thenR_ok {k : α → MS} : thenR (.ok a sd) k = k a sd := rfl
@[simp] theorem thenR_exc {k : α → MS} {x : Xn} : thenR (.exc x sd) k = .exc x sd := rfl
@[simp] theorem thenR_fail {k : α → MS} : thenR .fail k = .fail := rfl
def seqR (r : RS) (k : MS) : RS := match r with
  | .nx sd => k sd
  | r => r
variable {m k : MS}
@[simp] theorem mSeq_eq : mSeq m k sd = seqR (m sd) k := rfl
@[simp] theorem seqR_nx : seqR (.nx sd) k = k sd := rfl
@[simp] theorem seqR_ret : seqR (.ret r sd) k = .ret r sd := rfl
@[simp] theorem seqR_bk : seqR (.bk sd) k = .bk sd := rfl
@[simp] theorem seqR_ct : seqR (.ct sd) k = .ct sd := rfl
@[simp] theorem seqR_exc {x : Xn} : seqR (.exc x sd) k = .exc x sd := rfl
@[simp] theorem seqR_fail : seqR .fail k = .fail := rfl
@[simp] theorem mSkip_eq : mSkip sd = .nx sd := rfl
@[simp] theorem mExpr_eq : mExpr ma sd = thenR (ma sd) fun _ => mSkip := rfl
def retK (r : RV) : MS := fun sd => .ret r sd
@[simp] theorem retK_eq : retK r sd = .ret r sd := rfl
@[simp] theorem mRet_eq : mRet ma sd = thenR (ma sd) retK := rfl
@[simp] theorem mRetN_eq : mRetN sd = .ret (.val .non) sd := rfl
@[simp] theorem mBreak_eq : mBreak sd = .bk sd := rfl
@[simp] theorem mCont_eq : mCont sd = .ct sd := rfl
@[simp] theorem mIfS_eq : mIfS ta m k sd = thenR (ta sd) fun t => if t then m else k := rfl
@[simp] theorem iteM {α β : Type} {c : Prop} [Decidable c] {f g : α → β} {x : α} : (if c then f else g) x = if c then f x else g x := by split <;> rfl
def nxO (o : Option (List SV)) : RS := match o with
  | some sd => .nx sd
  | none => .fail
@[simp] theorem nxO_some : nxO (some sd) = .nx sd := rfl
@[simp] theorem nxO_none : nxO none = .fail := rfl
def asgK (g : MG) (r : RV) : MS := fun sd => nxO (g r sd)
@[simp] theorem asgK_eq {g : MG} : asgK g r sd = nxO (g r sd) := rfl
@[simp] theorem mAsg_eq {g : MG} : mAsg g ma sd = thenR (ma sd) (asgK g) := rfl
@[simp] theorem canPut_sh : canPut (some (.sh d)) = true := rfl
@[simp] theorem canPut_no : canPut (some .no) = true := rfl
@[simp] theorem canPut_bor : canPut (some (.bor d)) = true := rfl
@[simp] theorem canPut_own : canPut (some (.own d)) = true := rfl
@[simp] theorem put_val : putSlot i (.val d) sd = if canPut sd[i]? then some (sd.set i (.sh d)) else none := rfl
@[simp] theorem put_bval : putSlot i (.bval d) sd = if canPut sd[i]? then some (sd.set i (if d.imm then .sh d else .bor d)) else none := rfl
@[simp] theorem put_fresh : putSlot i (.fresh d) sd = if canPut sd[i]? then some (sd.set i (.own d)) else none := rfl
def puJ (s : SV) (j i : Nat) (sd : List SV) : Option (List SV) := match s with
  | .own d => some ((sd.set j (.sh d)).set i (.sh d))
  | .sh d => some (sd.set i (.sh d))
  | _ => none
@[simp] theorem put_slot : putSlot i (.slot j) sd = if canPut sd[i]? then puJ (sd[j]?.getD .no) j i sd else none := rfl
@[simp] theorem puJ_own : puJ (.own d) j i sd = some ((sd.set j (.sh d)).set i (.sh d)) := rfl
@[simp] theorem puJ_sh : puJ (.sh d) j i sd = some (sd.set i (.sh d)) := rfl
/-! defs, calls -/
def lvS (s : SV) : Option RV := match s with
  | .own d => some (.fresh d)
  | .sh d => some (.val d)
  | .bor d => if d.imm then some (.val d) else none
  | _ => none
@[simp] theorem leaves_val : leaves sd (.val d) = some (.val d) := rfl
@[simp] theorem leaves_fresh : leaves sd (.fresh d) = some (.fresh d) := rfl
@[simp] theorem leaves_bval : leaves sd (.bval d) = if d.imm then some (.val d) else none := rfl
@[simp] theorem leaves_slot : leaves sd (.slot i) = lvS (sd[i]?.getD .no) := rfl
@[simp] theorem lvS_own : lvS (.own d) = some (.fresh d) := rfl
@[simp] theorem lvS_sh : lvS (.sh d) = some (.val d) := rfl
@[simp] theorem outsOf_nil : outsOf sd [] = some [] := rfl
def outS (s : SV) : Option D := match s with
  | .io d => some d
  | _ => none
@[simp] theorem outsOf_cons {is : List Nat} : outsOf sd (i :: is) = (outS (sd[i]?.getD .no)).bind fun d => (outsOf sd is).map fun ds => d :: ds := rfl
@[simp] theorem outS_io : outS (.io d) = some d := rfl
def finR (r : Option RV) (os : Option (List D)) : FR := match r, os with
  | some r, some os => .ok r os
  | _, _ => .fail
@[simp] theorem finR_some {os : List D} : finR (some r) (some os) = .ok r os := rfl
@[simp] theorem finF_ret {ios : List Nat} : finF ios (.ret r sd) = finR (leaves sd r) (outsOf sd ios) := by
  first
    | (unfold finF finR; dsimp only; done)
    | (unfold finF finR; dsimp only; split <;> simp_all)
@[simp] theorem finF_nx {ios : List Nat} : finF ios (.nx sd) = finR (some (.val .non)) (outsOf sd ios) := by
  first
    | (unfold finF finR; dsimp only; done)
    | (unfold finF finR; dsimp only; cases outsOf sd ios <;> rfl)
@[simp] theorem mDef_eq {np n : Nat} {ios : List Nat} {body : MS} {args : List SV} : mDef np n ios body args = if args.length = np then finF ios (body (args ++ List.replicate (n - np) .no)) else .fail := rfl
@[simp] theorem passAll_nil {ios : List Nat} : passAll sd ios i [] = some [] := rfl
@[simp] theorem passAll_cons {ios : List Nat} : passAll sd ios i (r :: rs) = (passOne sd (ios.contains i) r).bind fun s => (passAll sd ios (i + 1) rs).map fun ss => s :: ss := rfl
@[simp] theorem pass_val : passOne sd false (.val d) = some (.sh d) := rfl
@[simp] theorem pass_fresh : passOne sd false (.fresh d) = some (.sh d) := rfl
@[simp] theorem pass_bval : passOne sd false (.bval d) = some (if d.imm then .sh d else .bor d) := rfl
def paS (s : SV) : Option SV := match s with
  | .own d => some (.bor d)
  | .io d => some (.bor d)
  | .sh d => some (.sh d)
  | .bor d => some (.bor d)
  | .no => none
@[simp] theorem pass_slot : passOne sd false (.slot i) = paS (sd[i]?.getD .no) := rfl
@[simp] theorem paS_own : paS (.own d) = some (.bor d) := rfl
@[simp] theorem paS_io : paS (.io d) = some (.bor d) := rfl
def paI (s : SV) : Option SV := match s with
  | .own d => some (.io d)
  | .io d => some (.io d)
  | _ => none
@[simp] theorem pass_io : passOne sd true (.slot i) = paI (sd[i]?.getD .no) := rfl
@[simp] theorem paI_own : paI (.own d) = some (.io d) := rfl
@[simp] theorem paI_io : paI (.io d) = some (.io d) := rfl
@[simp] theorem ioSlots_nil : ioSlots rs [] = some [] := rfl
@[simp] theorem ioSlots_zero : ioSlots (.slot j :: rs) [0] = some [j] := rfl
@[simp] theorem apart_nil : apartOk rs [] [] = true := by
  unfold apartOk
  rw [Bool.and_eq_true]
  refine ⟨by decide, List.all_eq_true.mpr fun i hi => ?_⟩
  cases rs[i]? with
  | none => rfl
  | some r => cases r <;> rfl
/-- an argument that isn't slot j -/
def notJ (j : Nat) : RV → Bool
  | .slot k => !(k == j)
  | _ => true
@[simp] theorem notJ_val : notJ j (.val d) = true := rfl
@[simp] theorem notJ_bval : notJ j (.bval d) = true := rfl
@[simp] theorem notJ_slot : notJ j (.slot i) = !(i == j) := rfl
@[simp] theorem apart_zero : apartOk (.slot j :: rs) [0] [j] = rs.all (notJ j) := by
  unfold apartOk
  rw [show decide [j].Nodup = true from by simp, Bool.true_and, List.length_cons, List.range_succ_eq_map, List.all_cons, List.all_map]
  rw [show ([0] : List Nat).contains 0 = true from rfl, Bool.true_or, Bool.true_and]
  rw [Bool.eq_iff_iff, List.all_eq_true, List.all_eq_true]
  constructor
  · intro h r hr
    obtain ⟨i, hi⟩ := List.getElem?_of_mem hr
    have hl := (List.getElem?_eq_some_iff.mp hi).1
    have := h i (List.mem_range.mpr hl)
    simp only [Function.comp, List.getElem?_cons_succ, hi] at this
    have c0 : ([0] : List Nat).contains (i + 1) = false := by simp
    simp only [Nat.succ_eq_add_one, c0, Bool.false_or, List.getElem?_cons_succ, hi] at this
    cases r <;> simp_all [notJ]
  · intro h i hi
    have hl : i < rs.length := List.mem_range.mp hi
    have := h rs[i] (List.getElem_mem hl)
    have e : rs[i]? = some rs[i] := List.getElem?_eq_getElem hl
    have c0 : ([0] : List Nat).contains (i + 1) = false := by simp
    simp only [Function.comp, Nat.succ_eq_add_one, c0, Bool.false_or, List.getElem?_cons_succ, e]
    cases hr : rs[i] <;> rw [hr] at this <;> simp_all [notJ]
@[simp] theorem wb_nil {n : Nat} : wb [] n sd = sd := by
  induction sd generalizing n with
  | nil => rfl
  | cons s r ih => unfold wb; rw [ih]; rfl
/-- the handed over slot's new content -/
def wbO (s : SV) (d : D) : SV := match s with
  | .own _ => .own d
  | .io _ => .io d
  | s => s
@[simp] theorem wbO_own : wbO (.own e) d = .own d := rfl
@[simp] theorem wbO_io : wbO (.io e) d = .io d := rfl
theorem wb_one' {n : Nat} : ∀ {sd : List SV} {n j : Nat}, n ≤ j → wb [(j, d)] n sd = sd.modify (j - n) fun s => wbO s d
  | [], n, j, h => by simp [wb]
  | s :: r, n, j, h => by
    unfold wb
    by_cases hj : j = n
    · subst hj
      have h2 : ∀ (r : List SV) (m : Nat), j < m → wb [(j, d)] m r = r := by
        intro r
        induction r with
        | nil => intro m _; rfl
        | cons t r ih =>
          intro m hm
          unfold wb updSV
          rw [ih _ (by omega)]
          have : (m == j) = false := by simp; omega
          simp [List.lookup_cons, this]
      rw [h2 r _ (Nat.lt_succ_self _), Nat.sub_self]
      simp [updSV, List.lookup_cons, List.modify]
      cases s <;> rfl
    · rw [wb_one' (n := 0) (by omega : n + 1 ≤ j)]
      have e : (n == j) = false := by simp; omega
      have e2 : j - n = (j - (n + 1)) + 1 := by omega
      rw [e2]
      simp [updSV, List.lookup_cons, e]
@[simp] theorem wb_one : wb [(j, d)] 0 sd = sd.modify j fun s => wbO s d := wb_one' (n := 0) (Nat.zero_le _)
def callK (ios : List Nat) (mf : MF) (rs : List RV) : M RV := fun sd => match passAll sd ios 0 rs, ioSlots rs ios with
  | some svs, some js => if apartOk rs ios js then
      match mf svs with
      | .ok r outs => .ok r (wb (js.zip outs) 0 sd)
      | .exc x outs => .exc x (wb (js.zip outs) 0 sd)
      | .fail => .fail
    else .fail
  | _, _ => .fail
@[simp] theorem mCall_eq {ios : List Nat} {mf : MF} : mCall ios mf ms sd = (ms sd).bind (callK ios mf) := rfl
def callE (f : FR) (js : List Nat) (sd : List SV) : R RV := match f with
  | .ok r outs => .ok r (wb (js.zip outs) 0 sd)
  | .exc x outs => .exc x (wb (js.zip outs) 0 sd)
  | .fail => .fail
@[simp] theorem callE_ok {js : List Nat} {outs : List D} : callE (.ok r outs) js sd = .ok r (wb (js.zip outs) 0 sd) := rfl
@[simp] theorem callE_exc {js : List Nat} {outs : List D} {x : Xn} : callE (.exc x outs) js sd = .exc x (wb (js.zip outs) 0 sd) := rfl
def callM (o : Option (List SV)) (mf : MF) (js : List Nat) (sd : List SV) : R RV := match o with
  | some svs => callE (mf svs) js sd
  | none => .fail
@[simp] theorem callM_some {svs : List SV} {mf : MF} {js : List Nat} : callM (some svs) mf js sd = callE (mf svs) js sd := rfl
@[simp] theorem callK_nil {mf : MF} {rs : List RV} : callK [] mf rs sd = callM (passAll sd [] 0 rs) mf [] sd := by
  unfold callK callM callE
  rw [ioSlots_nil]
  cases passAll sd [] 0 rs with
  | none => rfl
  | some svs => simp
@[simp] theorem callK_zero {mf : MF} {rs : List RV} : callK [0] mf (.slot j :: rs) sd = if rs.all (notJ j) then callM (passAll sd [0] 0 (.slot j :: rs)) mf [j] sd else .fail := by
  unfold callK callM callE
  rw [ioSlots_zero]
  cases passAll sd [0] 0 (.slot j :: rs) with
  | none => simp
  | some svs => rw [← apart_zero]
/-! loops -/
@[simp] theorem mFor_eq {mi : M (List RV)} {g : MG} : mFor mi g m sd = thenR (mi sd) fun items => forGo g m items := rfl
@[simp] theorem mComp_eq {vs : List Nat} {mi : M (List RV)} {g : MG} : mComp vs mi g ta ma sd = (mi sd).bind fun items => compGo vs g ta ma items [] := rfl
@[simp] theorem mRange_eq {g : List D → Option (List RV)} : mRange g ms sd = (ms sd).bind fun rs => mBind (mReads rs) fun ds => mBind (mGet (g ds)) fun is => mPure is := rfl
@[simp] theorem gRange1_eq {k : Int} : gRange1 [.int k] = if rangeOk k then some (rangeItems 0 k.toNat) else none := rfl
@[simp] theorem gRange2_eq {k l : Int} : gRange2 [.int k, .int l] = if rangeOk k && rangeOk l then some (rangeItems k (l - k).toNat) else none := rfl
@[simp] theorem mSeqIt_eq : mSeqIt ma sd = (ma sd).bind fun r => mBind (mSettle r) fun r => mGet (seqItems r) := rfl
@[simp] theorem mTupRg_eq : mTupRg ma sd = (ma sd).bind fun r => mBind (mRead r.keep) fun d => mBind (mGet d.int?) fun n => if 0 ≤ n ∧ n ≤ 1000000 then mPure (.val (.tup (intsD 0 n.toNat))) else mFail := rfl
@[simp] theorem mSortSet_eq : mSortSet ma sd = mUn gSortSet ma sd := rfl
@[simp] theorem mSetIx_eq {kd : D → Bool} {g : D → D → D → Option D} : mSetIx kd g i ma mb sd = thenR ((mb sd).bind fun r => mBind (mShare r) fun d => mBind (mOwn i) fun _ => mBind ma fun r => mBind (mRead r.keep) fun k => mBind (mOwn i) fun x => if kd x then mBind (mGet (g x k d)) fun x' => mPutOwn i x' else mFail) fun _ => mSkip := rfl
/-! operations -/
variable {p q : Int} {xs ys : List D}
@[simp] theorem gAdd_int : gAdd (.int p) (.int q) = some (.val (.int (p + q))) := rfl
@[simp] theorem gAdd_tup : gAdd (.tup xs) (.tup ys) = if xs.length + ys.length ≤ sizeLine && D.imms xs && D.imms ys then some (.val (.tup (xs ++ ys))) else none := rfl
@[simp] theorem gAdd_lst : gAdd (.lst xs) (.lst ys) = if xs.length + ys.length ≤ sizeLine && D.imms xs && D.imms ys then some (.fresh (.lst (xs ++ ys))) else none := rfl
@[simp] theorem gSub_int : gSub (.int p) (.int q) = some (.val (.int (p - q))) := rfl
@[simp] theorem gMul_int : gMul (.int p) (.int q) = if decide (p.natAbs < 18446744073709551616) || decide (q.natAbs < 18446744073709551616) then some (.val (.int (p * q))) else none := rfl
@[simp] theorem gMod_int : gMod (.int p) (.int q) = if decide (0 < q) then some (.val (.int (p % q))) else none := rfl
@[simp] theorem gDiv_int : gDiv (.int p) (.int q) = if decide (0 < q) && decide (q < 1073741824) then some (.val (.int (p / q))) else none := rfl
@[simp] theorem gPow_int : gPow (.int p) (.int q) = if decide (0 ≤ q) && decide (q ≤ 1000) && decide (p.natAbs < 18446744073709551616) then some (.val (.int (p ^ q.toNat))) else none := rfl
@[simp] theorem gNeg_int : gNeg (.int p) = some (.val (.int (-p))) := rfl
@[simp] theorem gLt_int : gLt (.int p) (.int q) = some (.val (.bl (decide (p < q)))) := rfl
@[simp] theorem gLe_int : gLe (.int p) (.int q) = some (.val (.bl (decide (p ≤ q)))) := rfl
@[simp] theorem gGt_int : gGt (.int p) (.int q) = some (.val (.bl (decide (q < p)))) := rfl
@[simp] theorem gGe_int : gGe (.int p) (.int q) = some (.val (.bl (decide (q ≤ p)))) := rfl
@[simp] theorem okN_int {n : Nat} : (D.int p).okN n = true := by cases n <;> rfl
@[simp] theorem okN_bl {n : Nat} {b : Bool} : (D.bl b).okN n = true := by cases n <;> rfl
@[simp] theorem okN_non {n : Nat} : D.non.okN n = true := by cases n <;> rfl
@[simp] theorem okN_tup {n : Nat} : (D.tup xs).okN (n + 1) = D.okNs n xs := rfl
@[simp] theorem okN_lst {n : Nat} : (D.lst xs).okN (n + 1) = D.okNs n xs := rfl
@[simp] theorem okNs_nil {n : Nat} : D.okNs n [] = true := by cases n <;> rfl
@[simp] theorem okNs_cons {n : Nat} : D.okNs n (d :: xs) = (d.okN n && D.okNs n xs) := by cases n <;> rfl
@[simp] theorem eqv_int : (D.int p).eqv (.int q) = (p == q) := rfl
@[simp] theorem gEq_int : gEq (.int p) (.int q) = some (.val (.bl (p == q))) := by unfold gEq; simp
@[simp] theorem gNe_int : gNe (.int p) (.int q) = some (.val (.bl (!(p == q)))) := by unfold gNe; simp
@[simp] theorem gEq_bl {b c : Bool} : gEq (.bl b) (.bl c) = some (.val (.bl (b == c))) := by unfold gEq; simp; rfl
@[simp] theorem gLen_tup : gLen [.tup xs] = some (.val (.int xs.length)) := rfl
@[simp] theorem gLen_lst : gLen [.lst xs] = some (.val (.int xs.length)) := rfl
@[simp] theorem gAbs_int : gAbs [.int p] = some (.val (.int (if p < 0 then -p else p))) := rfl
@[simp] theorem gInt_int : gInt [.int p] = some (.val (.int p)) := rfl
@[simp] theorem gTuple_tup : gTuple [.tup xs] = if D.imms xs then some (.val (.tup xs)) else none := rfl
@[simp] theorem gTuple_lst : gTuple [.lst xs] = if D.imms xs then some (.val (.tup xs)) else none := rfl
@[simp] theorem gList_tup : gList [.tup xs] = if D.imms xs then some (.fresh (.lst xs)) else none := rfl
@[simp] theorem gList_lst : gList [.lst xs] = if D.imms xs then some (.fresh (.lst xs)) else none := rfl
@[simp] theorem truth_bl {b : Bool} : truthD (.bl b) = some b := rfl
@[simp] theorem truth_tup : truthD (.tup xs) = some !xs.isEmpty := rfl
@[simp] theorem truth_lst : truthD (.lst xs) = some !xs.isEmpty := rfl
@[simp] theorem imm_int : (D.int p).imm = true := rfl
@[simp] theorem imm_bl {b : Bool} : (D.bl b).imm = true := rfl
@[simp] theorem imm_non : D.non.imm = true := rfl
@[simp] theorem imm_str {x : Str} : (D.str x).imm = true := rfl
@[simp] theorem imm_tup : (D.tup xs).imm = D.imms xs := rfl
@[simp] theorem imm_lst : (D.lst xs).imm = false := rfl
@[simp] theorem imms_nil : D.imms [] = true := rfl
@[simp] theorem imms_cons : D.imms (d :: xs) = (d.imm && D.imms xs) := rfl
@[simp] theorem isa_int_int : isaD "int" (.int p) = some true := rfl
@[simp] theorem isa_int_bool : isaD "bool" (.int p) = some false := rfl
@[simp] theorem isa_int_tup : isaD "tuple" (.int p) = some false := rfl
@[simp] theorem isa_int_str : isaD "str" (.int p) = some false := rfl
@[simp] theorem isa_bl_int {b : Bool} : isaD "int" (.bl b) = some true := rfl
@[simp] theorem isa_bl_bool {b : Bool} : isaD "bool" (.bl b) = some true := rfl
@[simp] theorem isa_bl_tup {b : Bool} : isaD "tuple" (.bl b) = some false := rfl
@[simp] theorem isa_tup_tup : isaD "tuple" (.tup xs) = some true := rfl
@[simp] theorem isa_tup_int : isaD "int" (.tup xs) = some false := rfl
@[simp] theorem isa_tup_bool : isaD "bool" (.tup xs) = some false := rfl
@[simp] theorem isa_non_tup : isaD "tuple" .non = some false := rfl
@[simp] theorem isa_non_int : isaD "int" .non = some false := rfl
@[simp] theorem isa_str_tup {x : Str} : isaD "tuple" (.str x) = some false := rfl
@[simp] theorem isa_str_int {x : Str} : isaD "int" (.str x) = some false := rfl
@[simp] theorem isNon_int : (D.int p).isNon = false := rfl
@[simp] theorem isNon_bl {b : Bool} : (D.bl b).isNon = false := rfl
@[simp] theorem isNon_tup : (D.tup xs).isNon = false := rfl
@[simp] theorem isNon_non : D.non.isNon = true := rfl
end
end Av

/-! loops over data; closed runs -/
namespace Av
open PySem L2
section
variable {d e : D} {i j : Nat} {sd : List SV} {xs : List D}
@[simp] theorem seq_tup : seqItems (.val (.tup xs)) = some (xs.map .val) := rfl
@[simp] theorem seq_lst : seqItems (.val (.lst xs)) = some (xs.map .val) := rfl
@[simp] theorem seq_btup : seqItems (.bval (.tup xs)) = some (xs.map fun d => if d.imm then .val d else .bval d) := rfl
@[simp] theorem seq_blst : seqItems (.bval (.lst xs)) = some (xs.map fun d => if d.imm then .val d else .bval d) := rfl
def stS (s : SV) (i : Nat) (sd : List SV) : R RV := match s with
  | .own d => .ok (.val d) (sd.set i (.sh d))
  | .sh d => .ok (.val d) sd
  | .bor d => .ok (.bval d) sd
  | _ => .fail
@[simp] theorem settle_slot : mSettle (.slot i) sd = stS (sd[i]?.getD .no) i sd := rfl
@[simp] theorem stS_own : stS (.own d) i sd = .ok (.val d) (sd.set i (.sh d)) := rfl
@[simp] theorem stS_sh : stS (.sh d) i sd = .ok (.val d) sd := rfl
@[simp] theorem stS_bor : stS (.bor d) i sd = .ok (.bval d) sd := rfl
@[simp] theorem settle_val : mSettle (.val d) sd = .ok (.val d) sd := rfl
@[simp] theorem settle_fresh : mSettle (.fresh d) sd = .ok (.val d) sd := rfl
@[simp] theorem settle_bval : mSettle (.bval d) sd = .ok (.bval d) sd := rfl
@[simp] theorem forGo_nil {g : MG} {b : MS} : forGo g b [] sd = .nx sd := rfl
def loopR (r : RS) (k : MS) : RS := match r with
  | .nx sd => k sd
  | .ct sd => k sd
  | .bk sd => .nx sd
  | r => r
@[simp] theorem loopR_nx {k : MS} : loopR (.nx sd) k = k sd := rfl
@[simp] theorem loopR_ct {k : MS} : loopR (.ct sd) k = k sd := rfl
@[simp] theorem loopR_bk {k : MS} : loopR (.bk sd) k = .nx sd := rfl
@[simp] theorem loopR_ret {k : MS} {r : RV} : loopR (.ret r sd) k = .ret r sd := rfl
def putK (o : Option (List SV)) (b : MS) : RS := match o with
  | some sd => b sd
  | none => .fail
@[simp] theorem putK_some {b : MS} : putK (some sd) b = b sd := rfl
theorem forGo_cons {g : MG} {b : MS} {r : RV} {rs : List RV} : forGo g b (r :: rs) sd = loopR (putK (g r sd) b) (forGo g b rs) := by
  show (match g r sd with | none => RS.fail | some sd1 => match b sd1 with | .nx sd2 => forGo g b rs sd2 | .ct sd2 => forGo g b rs sd2 | .bk sd2 => .nx sd2 | r => r) = _
  cases g r sd with
  | none => rfl
  | some sd1 =>
    simp only [putK]
    cases b sd1 <;> rfl
/-- a for that goes through -/
theorem for_all {g : MG} {b : MS} : ∀ (items : List RV) (I : Nat → List SV → Prop) (sd : List SV), I 0 sd → (∀ i sd, (h : i < items.length) → I i sd → ∃ sd', putK (g items[i] sd) b = .nx sd' ∧ I (i + 1) sd') → ∃ sd', forGo g b items sd = .nx sd' ∧ I items.length sd'
  | [], I, sd, h0, _ => ⟨sd, rfl, h0⟩
  | r :: rs, I, sd, h0, hs => by
    obtain ⟨sd1, e1, h1⟩ := hs 0 sd (Nat.succ_pos _) h0
    obtain ⟨sd2, e2, h2⟩ := for_all rs (fun i => I (i + 1)) sd1 h1 fun i sd hi hI => hs (i + 1) sd (Nat.succ_lt_succ hi) hI
    exact ⟨sd2, by rw [forGo_cons]; simp only [List.getElem_cons_zero] at e1; rw [e1]; exact e2, h2⟩
@[simp] theorem rangeItems_length {lo : Int} {n : Nat} : (rangeItems lo n).length = n := by unfold rangeItems; simp
theorem rangeItems_get? {lo : Int} {n i : Nat} (h : i < n) : (rangeItems lo n)[i]? = some (.val (.int (lo + (i : Int)))) := by unfold rangeItems; rw [List.getElem?_map, List.getElem?_range h]; rfl
theorem rangeItems_get {lo : Int} {n i : Nat} (h : i < (rangeItems lo n).length) : (rangeItems lo n)[i] = .val (.int (lo + (i : Int))) := (List.getElem?_eq_some_iff.mp (rangeItems_get? (by simpa using h))).2
theorem for_range {g : MG} {b : MS} {lo : Int} {n : Nat} (I : Nat → List SV → Prop) (sd : List SV) (h0 : I 0 sd) (hs : ∀ i sd, i < n → I i sd → ∃ sd', putK (g (.val (.int (lo + (i : Int)))) sd) b = .nx sd' ∧ I (i + 1) sd') : ∃ sd', forGo g b (rangeItems lo n) sd = .nx sd' ∧ I n sd' := by
  have h := for_all (g := g) (b := b) (rangeItems lo n) I sd h0 fun i sd hi hI => by
    rw [rangeItems_get hi]
    exact hs i sd (by simpa using hi) hI
  simpa using h
/-- a run that says True -/
def okT : FR → Bool
  | .ok (.val (.bl true)) [] => true
  | _ => false
theorem okT_eq {r : FR} (h : okT r = true) : r = .ok (.val (.bl true)) [] := by
  unfold okT at h
  split at h
  · rfl
  · cases h
@[simp] theorem rangeOk_small {k : Int} (h : 0 ≤ k) (h2 : k < 4611686018427387904) : rangeOk k = true := by
  unfold rangeOk
  rw [Bool.and_eq_true]
  exact ⟨decide_eq_true (by omega), decide_eq_true h2⟩
theorem imms_all {xs : List D} : D.imms xs = true ↔ ∀ d ∈ xs, d.imm = true := by
  constructor
  · exact fun h d hd => by
      induction xs with
      | nil => cases hd
      | cons x r ih =>
        rw [imms_cons, Bool.and_eq_true] at h
        rcases List.mem_cons.mp hd with rfl | hd
        · exact h.1
        · exact ih h.2 hd
  · intro h
    induction xs with
    | nil => rfl
    | cons x r ih => rw [imms_cons, h x List.mem_cons_self, ih fun d hd => h d (List.mem_cons_of_mem _ hd)]; rfl
@[simp] theorem imms_ints {ns : List Int} : D.imms (ns.map D.int) = true := imms_all.mpr fun d hd => by
  obtain ⟨n, _, rfl⟩ := List.mem_map.mp hd
  rfl
@[simp] theorem imms_append {xs ys : List D} : D.imms (xs ++ ys) = (D.imms xs && D.imms ys) := by
  induction xs with
  | nil => rfl
  | cons x r ih => rw [List.cons_append, imms_cons, imms_cons, ih, Bool.and_assoc]
theorem sizeN : (sizeLine : Nat) = 16777216 := sizeLine_eq
end
end Av
namespace Av
open PySem L2
section
variable {d e : D} {i j : Nat} {sd : List SV} {xs : List D}
@[simp] theorem gSl_tup {lo hi : Option Int} : gSl (.tup xs) lo hi = if D.imms xs then some (.val (.tup (cutD xs lo hi))) else none := rfl
@[simp] theorem gSl_lst {lo hi : Option Int} : gSl (.lst xs) lo hi = if D.imms xs then some (.fresh (.lst (cutD xs lo hi))) else none := rfl
theorem cutD_length (lo hi : Option Int) : (cutD xs lo hi).length ≤ xs.length := by
  unfold cutD
  simp only [List.length_take, List.length_drop]
  omega
/-- a comprehension's items -/
theorem comp_ex {vs : List Nat} {g : MG} {mt : M Bool} {me : M RV} {B : List SV} (P : D → Prop) : ∀ (items : List RV) (acc : List D) (sd : List SV), wipeS sd vs = B → acc.length + items.length ≤ sizeLine →
    (∀ r ∈ items, ∃ s1 s2 b, g r B = some s1 ∧ mt s1 = .ok b s2 ∧ (b = false → wipeS s2 vs = B) ∧ (b = true → ∃ d s3, (me s2).bind mShare = .ok d s3 ∧ P d ∧ wipeS s3 vs = B)) →
    ∃ ds, (∀ d ∈ ds, P d) ∧ ds.length ≤ items.length ∧ compGo vs g mt me items acc sd = .ok (.fresh (.lst (acc ++ ds))) B
  | [], acc, sd, h, _, _ => ⟨[], (fun d hd => nomatch hd), Nat.le_refl _, by
      show R.ok (RV.fresh (D.lst acc)) (wipeS sd vs) = _
      rw [h, List.append_nil]⟩
  | r :: rs, acc, sd, h, hl, hs => by
    obtain ⟨s1, s2, b, e1, e2, e3, e4⟩ := hs r List.mem_cons_self
    have ex : ∀ acc sd, compGo vs g mt me (r :: rs) acc sd = match g r (wipeS sd vs) with
      | none => .fail
      | some sd1 => match mt sd1 with
        | .ok true sd2 => match (mBind me mShare) sd2 with
          | .ok d sd3 => if acc.length < sizeLine then compGo vs g mt me rs (acc ++ [d]) sd3 else .fail
          | _ => .fail
        | .ok false sd2 => compGo vs g mt me rs acc sd2
        | _ => .fail := fun _ _ => rfl
    rw [List.length_cons] at hl
    rw [ex, h, e1]
    dsimp only
    rw [e2]
    cases b with
    | false =>
      obtain ⟨ds, h1, h2, h3⟩ := comp_ex P rs acc s2 (e3 rfl) (by omega) fun r hr => hs r (List.mem_cons_of_mem _ hr)
      exact ⟨ds, h1, by rw [List.length_cons]; omega, h3⟩
    | true =>
      obtain ⟨d, s3, e5, e6, e7⟩ := e4 rfl
      obtain ⟨ds, h1, h2, h3⟩ := comp_ex P rs (acc ++ [d]) s3 e7 (by rw [List.length_append, List.length_singleton]; omega) fun r hr => hs r (List.mem_cons_of_mem _ hr)
      refine ⟨d :: ds, fun x hx => ?_, by rw [List.length_cons, List.length_cons]; omega, ?_⟩
      · rcases List.mem_cons.mp hx with rfl | hx
        · exact e6
        · exact h1 x hx
      · dsimp only
        have e5' : (mBind me mShare) s2 = .ok d s3 := e5
        rw [e5']
        dsimp only
        rw [if_pos (by omega), h3, List.append_assoc]
        rfl
@[simp] theorem wipe_nil : wipeS sd [] = sd := rfl
@[simp] theorem wipe_cons {vs : List Nat} : wipeS sd (i :: vs) = (wipeS sd vs).set i .no := rfl
end
end Av

/-! mirrors: what each def computes, over data -/
namespace G
open Av
/-- slots: 0 size, 1 datum -/
def b_is_value : MS := mRet (mAndV (mIsa "int" (mVar 1)) (mAndV (mNotV (mIsa "bool" (mVar 1))) (mChain gLe gLt (mC (.int 0)) (mVar 1) (mVar 0))))
def m_is_value : MF := mDef 2 2 [] b_is_value
/-- slots: 0 size, 1 datum, 2 least, 3 value -/
def b_is_sign : MS := mSeq (mIfS (mNotT (mTruth (mIsa "tuple" (mVar 1)))) (mRet (mC (.bl false))) (mSkip)) (mSeq (mAsg (putSlot 2) (mC (.int 0))) (mSeq (mFor (mSeqIt (mVar 1)) (putSlot 3) (mSeq (mIfS (mOrT (mNotT (mTruth (mCall [] m_is_value (mCons (mVar 0) (mCons (mVar 3) (mNil)))))) (mCmpT gLt (mVar 3) (mVar 2))) (mRet (mC (.bl false))) (mSkip)) (mAsg (putSlot 2) (mOp gAdd (mVar 3) (mC (.int 1)))))) (mRet (mC (.bl true)))))
def m_is_sign : MF := mDef 2 4 [] b_is_sign
/-- slots: 0 size -/
def b_full_sign : MS := mRet (mTupRg (mVar 0))
def m_full_sign : MF := mDef 1 1 [] b_full_sign
/-- slots: 0 size, 1 signs, 2 value, 3 sign -/
def b_all_signs : MS := mSeq (mAsg (putSlot 1) (mLst (mCons (mTup (mNil)) (mNil)))) (mSeq (mFor (mRange gRange1 (mCons (mVar 0) (mNil))) (putSlot 2) (mAsg (putSlot 1) (mOp gAdd (mVar 1) (mComp [3] (mSeqIt (mVar 1)) (putSlot 3) (mPure true) (mOp gAdd (mVar 3) (mTup (mCons (mVar 2) (mNil)))))))) (mRet (mCallB gTuple (mCons (mCallB gSorted (mCons (mVar 1) (mNil))) (mNil)))))
def m_all_signs : MF := mDef 1 4 [] b_all_signs
/-- slots: 0 size, 1 sign, 2 value -/
def b_other_values : MS := mRet (mCallB gTuple (mCons (mComp [2] (mRange gRange1 (mCons (mVar 0) (mNil))) (putSlot 2) (mCmpT (gIn true) (mVar 2) (mVar 1)) (mVar 2)) (mNil)))
def m_other_values : MF := mDef 2 3 [] b_other_values
/-- slots: 0 one, 1 two -/
def b_sign_union : MS := mRet (mCallB gTuple (mCons (mSortSet (mOp gAdd (mVar 0) (mVar 1))) (mNil)))
def m_sign_union : MF := mDef 2 2 [] b_sign_union
/-- slots: 0 one, 1 two, 2 value -/
def b_sign_common : MS := mRet (mCallB gTuple (mCons (mComp [2] (mSeqIt (mVar 0)) (putSlot 2) (mCmpT (gIn false) (mVar 2) (mVar 1)) (mVar 2)) (mNil)))
def m_sign_common : MF := mDef 2 3 [] b_sign_common
/-- slots: 0 one, 1 two, 2 value -/
def b_sign_within : MS := mSeq (mFor (mSeqIt (mVar 0)) (putSlot 2) (mIfS (mCmpT (gIn true) (mVar 2) (mVar 1)) (mRet (mC (.bl false))) (mSkip))) (mRet (mC (.bl true)))
def m_sign_within : MF := mDef 2 3 [] b_sign_within
/-- slots: 0 size, 1 places, 2 count, 3 _ -/
def b_row_count : MS := mSeq (mAsg (putSlot 2) (mC (.int 1))) (mSeq (mFor (mRange gRange1 (mCons (mVar 1) (mNil))) (putSlot 3) (mAsg (putSlot 2) (mOp gMul (mVar 2) (mVar 0)))) (mRet (mVar 2)))
def m_row_count : MF := mDef 2 4 [] b_row_count
/-- slots: 0 size, 1 places, 2 rows, 3 _, 4 row, 5 value -/
def b_all_rows : MS := mSeq (mAsg (putSlot 2) (mLst (mCons (mTup (mNil)) (mNil)))) (mSeq (mFor (mRange gRange1 (mCons (mVar 1) (mNil))) (putSlot 3) (mAsg (putSlot 2) (mComp2 [4, 5] [5] (mSeqIt (mVar 2)) (putSlot 4) (mPure true) (mRange gRange1 (mCons (mVar 0) (mNil))) (putSlot 5) (mPure true) (mOp gAdd (mVar 4) (mTup (mCons (mVar 5) (mNil))))))) (mRet (mCallB gTuple (mCons (mVar 2) (mNil)))))
def m_all_rows : MF := mDef 2 6 [] b_all_rows
/-- slots: 0 size, 1 row, 2 number, 3 value -/
def b_row_number : MS := mSeq (mAsg (putSlot 2) (mC (.int 0))) (mSeq (mFor (mSeqIt (mVar 1)) (putSlot 3) (mAsg (putSlot 2) (mOp gAdd (mOp gMul (mVar 2) (mVar 0)) (mVar 3)))) (mRet (mVar 2)))
def m_row_number : MF := mDef 2 4 [] b_row_number
/-- slots: 0 script, 1 k -/
def b__law_cell : MS := mSeq (mIfS (mCmpT gLt (mVar 1) (mCallB gLen (mCons (mVar 0) (mNil)))) (mRet (mCallB gInt (mCons (mIx (mVar 0) (mVar 1)) (mNil)))) (mSkip)) (mRet (mC (.int 0)))
def m__law_cell : MF := mDef 2 2 [] b__law_cell
/-- slots: 0 cell, 1 rest -/
def b__law_stream : MS := mSeq (mAsg (putSlot 1) (mCallB gAbs (mCons (mCallB gInt (mCons (mVar 0) (mNil))) (mNil)))) (mSeq (mIfS (mCmpT gLt (mVar 1) (mOp gPow (mC (.int 10)) (mC (.int 18)))) (mAsg (putSlot 1) (mC (.int 0))) (mSkip)) (mRet (mLst (mCons (mVar 1) (mCons (mCallB gInt (mCons (mVar 0) (mNil))) (mCons (mC (.int 0)) (mNil)))))))
def m__law_stream : MF := mDef 1 2 [] b__law_stream
/-- slots: 0 stream, 1 limit, 2 digit, 3 one, 4 two -/
def b__law_next : MS := mSeq (mSetIx D.isLst gSetL 0 (mC (.int 2)) (mOp gAdd (mIx (mVar 0) (mC (.int 2))) (mC (.int 1)))) (mSeq (mIfS (mCmpT gGt (mIx (mVar 0) (mC (.int 0))) (mC (.int 0))) (mSeq (mAsg (putSlot 2) (mOp gMod (mCallB gInt (mCons (mIx (mVar 0) (mC (.int 0))) (mNil))) (mVar 1))) (mSeq (mSetIx D.isLst gSetL 0 (mC (.int 0)) (mOp gDiv (mCallB gInt (mCons (mIx (mVar 0) (mC (.int 0))) (mNil))) (mVar 1))) (mRet (mVar 2)))) (mSkip)) (mSeq (mAsg (putSlot 3) (mOp gMod (mCallB gInt (mCons (mOp gMul (mCallB gInt (mCons (mOp gAdd (mOp gMod (mCallB gInt (mCons (mIx (mVar 0) (mC (.int 1))) (mNil))) (mC (.int 2147483647))) (mOp gMul (mC (.int 7919)) (mIx (mVar 0) (mC (.int 2))))) (mNil))) (mC (.int 48271))) (mNil))) (mC (.int 2147483647)))) (mSeq (mAsg (putSlot 4) (mOp gMod (mCallB gInt (mCons (mOp gAdd (mOp gMul (mVar 3) (mVar 3)) (mOp gMul (mC (.int 69621)) (mIx (mVar 0) (mC (.int 2))))) (mNil))) (mC (.int 1000003)))) (mRet (mOp gMod (mCallB gInt (mCons (mVar 4) (mNil))) (mVar 1))))))
def m__law_next : MF := mDef 2 5 [0] b__law_next
/-- slots: 0 actual, 1 expected, 2 k -/
def b__law_exact (rec : MF) : MS := mSeq (mIfS (mTruth (mIsa "tuple" (mVar 1))) (mSeq (mIfS (mOrT (mNotT (mTruth (mIsa "tuple" (mVar 0)))) (mCmpT gNe (mCallB gLen (mCons (mVar 0) (mNil))) (mCallB gLen (mCons (mVar 1) (mNil))))) (mRet (mC (.bl false))) (mSkip)) (mSeq (mFor (mRange gRange1 (mCons (mCallB gLen (mCons (mVar 1) (mNil))) (mNil))) (putSlot 2) (mIfS (mNotT (mTruth (mCall [] rec (mCons (mIx (mVar 0) (mVar 2)) (mCons (mIx (mVar 1) (mVar 2)) (mNil)))))) (mRet (mC (.bl false))) (mSkip))) (mRet (mC (.bl true))))) (mSkip)) (mSeq (mIfS (mB (mIsN (mVar 1))) (mRet (mIsN (mVar 0))) (mSkip)) (mSeq (mIfS (mTruth (mIsa "bool" (mVar 1))) (mRet (mAndV (mIsa "bool" (mVar 0)) (mOp gEq (mVar 0) (mVar 1)))) (mSkip)) (mSeq (mIfS (mTruth (mIsa "int" (mVar 1))) (mRet (mAndV (mIsa "int" (mVar 0)) (mAndV (mNotV (mIsa "bool" (mVar 0))) (mOp gEq (mVar 0) (mVar 1))))) (mSkip)) (mRet (mAndV (mIsa "str" (mVar 0)) (mOp gEq (mVar 0) (mVar 1)))))))
def r__law_exact : Nat → MF
  | 0 => fun _ => .fail
  | n + 1 => mDef 2 3 [] (b__law_exact (r__law_exact n))
def m__law_exact : MF := r__law_exact 8
/-- slots: 0 size, 1 places, 2 rows, 3 k, 4 longer, 5 row, 6 value -/
def b__law_rows : MS := mSeq (mAsg (putSlot 2) (mLst (mCons (mTup (mNil)) (mNil)))) (mSeq (mFor (mRange gRange1 (mCons (mVar 1) (mNil))) (putSlot 3) (mSeq (mAsg (putSlot 4) (mLst (mNil))) (mSeq (mFor (mSeqIt (mCallB gList (mCons (mVar 2) (mNil)))) (putSlot 5) (mFor (mRange gRange1 (mCons (mVar 0) (mNil))) (putSlot 6) (mExpr (mMut D.isLst gAppend 4 (mCons (mOp gAdd (mVar 5) (mTup (mCons (mVar 6) (mNil)))) (mNil)))))) (mAsg (putSlot 2) (mVar 4))))) (mRet (mVar 2)))
def m__law_rows : MF := mDef 2 7 [] b__law_rows
/-- slots: 0 stream, 1 size, 2 least, 3 sign, 4 value -/
def b__law_sign : MS := mSeq (mAsg (putSlot 3) (mTup (mNil))) (mSeq (mFor (mRange gRange1 (mCons (mVar 1) (mNil))) (putSlot 4) (mIfS (mCmpT gEq (mCall [0] m__law_next (mCons (mVar 0) (mCons (mC (.int 2)) (mNil)))) (mC (.int 1))) (mAsg (putSlot 3) (mOp gAdd (mVar 3) (mTup (mCons (mVar 4) (mNil))))) (mSkip))) (mSeq (mIfS (mCmpT gLt (mCallB gLen (mCons (mVar 3) (mNil))) (mVar 2)) (mAsg (putSlot 3) (mTup (mCons (mCall [0] m__law_next (mCons (mVar 0) (mCons (mVar 1) (mNil)))) (mNil)))) (mSkip)) (mRet (mVar 3))))
def m__law_sign : MF := mDef 3 5 [0] b__law_sign
/-- slots: 0 size, 1 datum, 2 least, 3 value -/
def b__law_is_sign : MS := mSeq (mIfS (mNotT (mTruth (mIsa "tuple" (mVar 1)))) (mRet (mC (.bl false))) (mSkip)) (mSeq (mAsg (putSlot 2) (mC (.int 0))) (mSeq (mFor (mSeqIt (mVar 1)) (putSlot 3) (mSeq (mIfS (mOrT (mNotT (mTruth (mIsa "int" (mVar 3)))) (mOrT (mTruth (mIsa "bool" (mVar 3))) (mNotT (mB (mChain gLe gLt (mVar 2) (mVar 3) (mVar 0)))))) (mRet (mC (.bl false))) (mSkip)) (mAsg (putSlot 2) (mOp gAdd (mVar 3) (mC (.int 1)))))) (mRet (mC (.bl true)))))
def m__law_is_sign : MF := mDef 2 4 [] b__law_is_sign
/-- slots: 0 size, 1 datum -/
def b__law_is_value : MS := mRet (mAndV (mIsa "int" (mVar 1)) (mAndV (mNotV (mIsa "bool" (mVar 1))) (mChain gLe gLt (mC (.int 0)) (mVar 1) (mVar 0))))
def m__law_is_value : MF := mDef 2 2 [] b__law_is_value
/-- slots: 0 stream, 1 size, 2 items -/
def b__law_item : MS := mSeq (mAsg (putSlot 2) (mLst (mCons (mC (.int 0)) (mCons (mC (.int 1)) (mCons (mOp gSub (mVar 1) (mC (.int 1))) (mCons (mVar 1) (mCons (mUn gNeg (mC (.int 1))) (mCons (mC (.bl true)) (mCons (mC (.bl false)) (mCons (mC .non) (mCons (mC (.str "0")) (mCons (mC (.str "")) (mCons (mTup (mNil)) (mCons (mTup (mCons (mC (.int 0)) (mNil))) (mCons (mOp gPow (mC (.int 10)) (mC (.int 30))) (mCons (mOp gAdd (mVar 1) (mC (.int 1))) (mCons (mUn gNeg (mC (.int 2))) (mCons (mTup (mCons (mTup (mCons (mC (.int 0)) (mNil))) (mNil))) (mNil))))))))))))))))))) (mRet (mIx (mVar 2) (mCall [0] m__law_next (mCons (mVar 0) (mCons (mCallB gLen (mCons (mVar 2) (mNil))) (mNil))))))
def m__law_item : MF := mDef 2 3 [0] b__law_item
/-- slots: 0 stream, 1 size, 2 way, 3 sign, 4 at, 5 item, 6 k, 7 value -/
def b__law_near : MS := mSeq (mAsg (putSlot 3) (mCall [0] m__law_sign (mCons (mVar 0) (mCons (mVar 1) (mCons (mC (.int 0)) (mNil)))))) (mSeq (mAsg (putSlot 4) (mCall [0] m__law_next (mCons (mVar 0) (mCons (mOp gAdd (mCallB gLen (mCons (mVar 3) (mNil))) (mC (.int 1))) (mNil))))) (mSeq (mAsg (putSlot 5) (mCall [0] m__law_item (mCons (mVar 0) (mCons (mVar 1) (mNil))))) (mSeq (mIfS (mCmpT gEq (mVar 2) (mC (.int 0))) (mRet (mVar 3)) (mSkip)) (mSeq (mIfS (mCmpT gEq (mVar 2) (mC (.int 1))) (mRet (mOp gAdd (mOp gAdd (mSl (mVar 3) (mNoPart) (mPart (mVar 4))) (mTup (mCons (mVar 5) (mNil)))) (mSl (mVar 3) (mPart (mVar 4)) (mNoPart)))) (mSkip)) (mSeq (mIfS (mCmpT gEq (mVar 2) (mC (.int 2))) (mRet (mOp gAdd (mOp gAdd (mSl (mVar 3) (mNoPart) (mPart (mVar 4))) (mTup (mCons (mVar 5) (mNil)))) (mSl (mVar 3) (mPart (mOp gAdd (mVar 4) (mC (.int 1)))) (mNoPart)))) (mSkip)) (mSeq (mIfS (mCmpT gEq (mVar 2) (mC (.int 3))) (mRet (mOp gAdd (mSl (mVar 3) (mNoPart) (mPart (mOp gAdd (mVar 4) (mC (.int 1))))) (mSl (mVar 3) (mPart (mVar 4)) (mNoPart)))) (mSkip)) (mSeq (mIfS (mCmpT gEq (mVar 2) (mC (.int 4))) (mRet (mOp gAdd (mSl (mVar 3) (mPart (mVar 4)) (mNoPart)) (mSl (mVar 3) (mNoPart) (mPart (mVar 4))))) (mSkip)) (mSeq (mIfS (mCmpT gEq (mVar 2) (mC (.int 5))) (mRet (mCallB gTuple (mCons (mComp [6] (mRange gRange1 (mCons (mCallB gLen (mCons (mVar 3) (mNil))) (mNil))) (putSlot 6) (mPure true) (mIx (mVar 3) (mOp gSub (mOp gSub (mCallB gLen (mCons (mVar 3) (mNil))) (mC (.int 1))) (mVar 6)))) (mNil)))) (mSkip)) (mSeq (mIfS (mCmpT gEq (mVar 2) (mC (.int 6))) (mRet (mCallB gTuple (mCons (mComp [7] (mSeqIt (mVar 3)) (putSlot 7) (mPure true) (mIx (mLst (mCons (mC (.bl false)) (mCons (mC (.bl true)) (mCons (mC (.int 2)) (mCons (mC (.int 3)) (mNil)))))) (mVar 7))) (mNil)))) (mSkip)) (mSeq (mIfS (mCmpT gEq (mVar 2) (mC (.int 7))) (mRet (mTup (mCons (mVar 3) (mNil)))) (mSkip)) (mRet (mVar 5))))))))))))
def m__law_near : MF := mDef 3 8 [0] b__law_near
/-- slots: 0 datum, 1 told, 2 item -/
def b__law_twin : MS := mSeq (mAsg (putSlot 1) (mLst (mNil))) (mSeq (mFor (mSeqIt (mVar 0)) (putSlot 2) (mIfS (mAndT (mTruth (mIsa "int" (mVar 2))) (mAndT (mNotT (mTruth (mIsa "bool" (mVar 2)))) (mB (mChain gLe gLt (mC (.int 0)) (mVar 2) (mC (.int 2)))))) (mExpr (mMut D.isLst gAppend 1 (mCons (mOp gEq (mVar 2) (mC (.int 1))) (mNil)))) (mExpr (mMut D.isLst gAppend 1 (mCons (mVar 2) (mNil)))))) (mRet (mCallB gTuple (mCons (mVar 1) (mNil)))))
def m__law_twin : MF := mDef 1 3 [] b__law_twin
/-- slots: 0 stream, 1 wide, 2 way, 3 datum, 4 data, 5 one, 6 size -/
def b__law_data_right : MS := mSeq (mAsg (putSlot 3) (mCall [0] m__law_near (mCons (mVar 0) (mCons (mVar 1) (mCons (mVar 2) (mNil)))))) (mSeq (mAsg (putSlot 4) (mLst (mCons (mVar 3) (mNil)))) (mSeq (mIfS (mTruth (mIsa "tuple" (mVar 3))) (mAsg (putSlot 4) (mOp gAdd (mLst (mCons (mVar 3) (mCons (mCall [] m__law_twin (mCons (mVar 3) (mNil))) (mCons (mVar 3) (mNil))))) (mCallB gList (mCons (mVar 3) (mNil))))) (mSkip)) (mSeq (mFor (mSeqIt (mVar 4)) (putSlot 5) (mFor (mSeqIt (mLst (mCons (mC (.int 2)) (mCons (mC (.int 3)) (mCons (mC (.int 4)) (mNil)))))) (putSlot 6) (mSeq (mIfS (mNotT (mTruth (mCall [] m__law_exact (mCons (mCall [] m_is_sign (mCons (mVar 6) (mCons (mVar 5) (mNil)))) (mCons (mCall [] m__law_is_sign (mCons (mVar 6) (mCons (mVar 5) (mNil)))) (mNil)))))) (mRet (mC (.bl false))) (mSkip)) (mIfS (mNotT (mTruth (mCall [] m__law_exact (mCons (mCall [] m_is_value (mCons (mVar 6) (mCons (mVar 5) (mNil)))) (mCons (mCall [] m__law_is_value (mCons (mVar 6) (mCons (mVar 5) (mNil)))) (mNil)))))) (mRet (mC (.bl false))) (mSkip))))) (mRet (mC (.bl true))))))
def m__law_data_right : MF := mDef 3 7 [0] b__law_data_right
/-- slots: 0 size, 1 one, 2 two, 3 union, 4 common, 5 value -/
def b__law_pair_right : MS := mSeq (mAsg (putSlot 3) (mCallB gTuple (mCons (mComp [5] (mRange gRange1 (mCons (mVar 0) (mNil))) (putSlot 5) (mOrT (mCmpT (gIn false) (mVar 5) (mVar 1)) (mCmpT (gIn false) (mVar 5) (mVar 2))) (mVar 5)) (mNil)))) (mSeq (mAsg (putSlot 4) (mCallB gTuple (mCons (mComp [5] (mRange gRange1 (mCons (mVar 0) (mNil))) (putSlot 5) (mAndT (mCmpT (gIn false) (mVar 5) (mVar 1)) (mCmpT (gIn false) (mVar 5) (mVar 2))) (mVar 5)) (mNil)))) (mSeq (mIfS (mOrT (mNotT (mTruth (mCall [] m__law_exact (mCons (mCall [] m_sign_union (mCons (mVar 1) (mCons (mVar 2) (mNil)))) (mCons (mVar 3) (mNil)))))) (mNotT (mTruth (mCall [] m__law_exact (mCons (mCall [] m_sign_common (mCons (mVar 1) (mCons (mVar 2) (mNil)))) (mCons (mVar 4) (mNil))))))) (mRet (mC (.bl false))) (mSkip)) (mRet (mCall [] m__law_exact (mCons (mCall [] m_sign_within (mCons (mVar 1) (mCons (mVar 2) (mNil)))) (mCons (mOp gEq (mVar 4) (mVar 1)) (mNil)))))))
def m__law_pair_right : MF := mDef 3 6 [] b__law_pair_right
/-- slots: 0 size, 1 signs, 2 value, 3 one, 4 two, 5 sign -/
def b__law_signs_right : MS := mSeq (mAsg (putSlot 1) (mLst (mCons (mTup (mNil)) (mNil)))) (mSeq (mFor (mRange gRange1 (mCons (mVar 0) (mNil))) (putSlot 2) (mAsg (putSlot 1) (mOp gAdd (mVar 1) (mComp [5] (mSeqIt (mVar 1)) (putSlot 5) (mPure true) (mOp gAdd (mVar 5) (mTup (mCons (mVar 2) (mNil)))))))) (mSeq (mAsg (putSlot 1) (mCallB gSorted (mCons (mVar 1) (mNil)))) (mSeq (mIfS (mOrT (mNotT (mTruth (mCall [] m__law_exact (mCons (mCall [] m_all_signs (mCons (mVar 0) (mNil))) (mCons (mCallB gTuple (mCons (mVar 1) (mNil))) (mNil)))))) (mNotT (mTruth (mCall [] m__law_exact (mCons (mCall [] m_full_sign (mCons (mVar 0) (mNil))) (mCons (mTupRg (mVar 0)) (mNil))))))) (mRet (mC (.bl false))) (mSkip)) (mSeq (mFor (mSeqIt (mVar 1)) (putSlot 3) (mSeq (mIfS (mNotT (mTruth (mCall [] m__law_exact (mCons (mCall [] m_other_values (mCons (mVar 0) (mCons (mVar 3) (mNil)))) (mCons (mCallB gTuple (mCons (mComp [2] (mRange gRange1 (mCons (mVar 0) (mNil))) (putSlot 2) (mCmpT (gIn true) (mVar 2) (mVar 3)) (mVar 2)) (mNil))) (mNil)))))) (mRet (mC (.bl false))) (mSkip)) (mFor (mSeqIt (mVar 1)) (putSlot 4) (mIfS (mNotT (mTruth (mCall [] m__law_pair_right (mCons (mVar 0) (mCons (mVar 3) (mCons (mVar 4) (mNil))))))) (mRet (mC (.bl false))) (mSkip))))) (mRet (mC (.bl true)))))))
def m__law_signs_right : MF := mDef 1 6 [] b__law_signs_right
/-- slots: 0 size, 1 places, 2 rows, 3 at -/
def b__law_rows_right : MS := mSeq (mAsg (putSlot 2) (mCall [] m__law_rows (mCons (mVar 0) (mCons (mVar 1) (mNil))))) (mSeq (mIfS (mOrT (mNotT (mTruth (mCall [] m__law_exact (mCons (mCall [] m_all_rows (mCons (mVar 0) (mCons (mVar 1) (mNil)))) (mCons (mCallB gTuple (mCons (mVar 2) (mNil))) (mNil)))))) (mNotT (mTruth (mCall [] m__law_exact (mCons (mCall [] m_row_count (mCons (mVar 0) (mCons (mVar 1) (mNil)))) (mCons (mCallB gLen (mCons (mVar 2) (mNil))) (mNil))))))) (mRet (mC (.bl false))) (mSkip)) (mSeq (mFor (mRange gRange1 (mCons (mCallB gLen (mCons (mVar 2) (mNil))) (mNil))) (putSlot 3) (mIfS (mNotT (mTruth (mCall [] m__law_exact (mCons (mCall [] m_row_number (mCons (mVar 0) (mCons (mIx (mVar 2) (mVar 3)) (mNil)))) (mCons (mVar 3) (mNil)))))) (mRet (mC (.bl false))) (mSkip))) (mRet (mC (.bl true)))))
def m__law_rows_right : MF := mDef 2 4 [] b__law_rows_right
/-- slots: 0 script, 1 stream, 2 first, 3 size, 4 shapes, 5 k -/
def b_law : MS := mSeq (mAsg (putSlot 1) (mCall [] m__law_stream (mCons (mCall [] m__law_cell (mCons (mVar 0) (mCons (mC (.int 0)) (mNil)))) (mNil)))) (mSeq (mAsg (putSlot 2) (mOp gAdd (mC (.int 2)) (mCall [0] m__law_next (mCons (mVar 1) (mCons (mC (.int 3)) (mNil)))))) (mSeq (mFor (mSeqIt (mLst (mCons (mVar 2) (mCons (mC (.int 2)) (mCons (mC (.int 3)) (mCons (mC (.int 4)) (mNil))))))) (putSlot 3) (mSeq (mIfS (mNotT (mTruth (mCall [] m__law_signs_right (mCons (mVar 3) (mNil))))) (mRet (mC (.bl false))) (mSkip)) (mIfS (mNotT (mTruth (mCall [] m__law_rows_right (mCons (mVar 3) (mCons (mCall [0] m__law_next (mCons (mVar 1) (mCons (mIx (mLst (mCons (mC (.int 0)) (mCons (mC (.int 0)) (mCons (mC (.int 7)) (mCons (mC (.int 5)) (mCons (mC (.int 5)) (mNil))))))) (mVar 3)) (mNil)))) (mNil)))))) (mRet (mC (.bl false))) (mSkip)))) (mSeq (mAsg (putSlot 4) (mCall [] m__law_stream (mCons (mCall [] m__law_cell (mCons (mVar 0) (mCons (mC (.int 1)) (mNil)))) (mNil)))) (mSeq (mFor (mRange gRange1 (mCons (mC (.int 18)) (mNil))) (putSlot 5) (mIfS (mNotT (mTruth (mCall [0] m__law_data_right (mCons (mVar 4) (mCons (mOp gAdd (mC (.int 2)) (mOp gMod (mCallB gInt (mCons (mOp gAdd (mVar 2) (mVar 5)) (mNil))) (mC (.int 3)))) (mCons (mOp gMod (mCallB gInt (mCons (mVar 5) (mNil))) (mC (.int 9))) (mNil))))))) (mRet (mC (.bl false))) (mSkip))) (mRet (mC (.bl true)))))))
def m_law : MF := mDef 1 6 [] b_law
end G

namespace G
open Av
def Str3 (d : D) : Prop := ∃ a b c : Int, d = .lst [.int a, .int b, .int c]
theorem next_eq {st : D} (hs : Str3 st) (l : Int) (hl : 0 < l) (hl2 : l < 1073741824) : ∃ d st', Str3 st' ∧ 0 ≤ d ∧ d < l ∧ m__law_next [.io st, .sh (.int l)] = .ok (.val (.int d)) [st'] := by
  obtain ⟨a, b, c, rfl⟩ := hs
  unfold m__law_next b__law_next
  by_cases h : 0 < a
  · refine ⟨a % l, _, ⟨a / l, b, c + 1, rfl⟩, Int.emod_nonneg _ (by omega), Int.emod_lt_of_pos _ hl, ?_⟩
    simp [L2.atI, L2.ixN, h, hl, hl2]
  · have h1 : ((b % 2147483647 + 7919 * (c + 1)) * 48271 % 2147483647).natAbs < 18446744073709551616 := by omega
    refine ⟨(((b % 2147483647 + 7919 * (c + 1)) * 48271 % 2147483647) * ((b % 2147483647 + 7919 * (c + 1)) * 48271 % 2147483647) + 69621 * (c + 1)) % 1000003 % l, _, ⟨a, b, c + 1, rfl⟩, Int.emod_nonneg _ (by omega), Int.emod_lt_of_pos _ hl, ?_⟩
    simp [L2.atI, L2.ixN, h, hl, h1]
theorem stream_eq (v : Int) : ∃ st, Str3 st ∧ m__law_stream [.sh (.int v)] = .ok (.fresh st) [] := by
  unfold m__law_stream b__law_stream
  by_cases h : (if v < 0 then -v else v) < 1000000000000000000
  · exact ⟨_, ⟨0, v, 0, rfl⟩, by simp [sizeN, h]⟩
  · exact ⟨_, ⟨(if v < 0 then -v else v), v, 0, rfl⟩, by simp [sizeN, h]⟩
theorem cell_eq (ns : List Int) (k : Nat) : ∃ v, m__law_cell [.sh (.lst (ns.map .int)), .sh (.int k)] = .ok (.val (.int v)) [] := by
  unfold m__law_cell b__law_cell
  by_cases h : k < ns.length
  · exact ⟨ns[k], by simp [L2.atI, L2.ixN, h]⟩
  · exact ⟨0, by simp [h]⟩
def isV (s : Int) : D → Bool
  | .int i => decide (0 ≤ i) && decide (i < s)
  | _ => false
theorem value_eq (s : Int) (d : D) (hd : d.imm = true) : m_is_value [.sh (.int s), .sh d] = .ok (.val (.bl (isV s d))) [] := by
  unfold m_is_value b_is_value
  cases d with
  | int i => by_cases h : 0 ≤ i <;> simp [isV, h]
  | bl b => simp [isV]
  | non => simp [isV]
  | str x => simp [isV]
  | tup xs => simp [isV]
  | _ => cases hd
theorem law_value_eq (s : Int) (d : D) (hd : d.imm = true) : m__law_is_value [.sh (.int s), .sh d] = .ok (.val (.bl (isV s d))) [] := value_eq s d hd
/-- from least on -/
def isS (s : Int) : Int → List D → Bool
  | _, [] => true
  | k, .int i :: r => decide (k ≤ i) && decide (i < s) && isS s (i + 1) r
  | _, _ => false
def isSign (s : Int) : D → Bool
  | .tup xs => isS s 0 xs
  | _ => false
theorem sign_loop (s k : Int) (x : D) (v : SV) (xs : List D) (hv : canPut (some v) = true) (hk : 0 ≤ k) (hx : D.imms xs = true) :
    (isS s k xs = true ∧ ∃ sd, forGo (putSlot 3) (mSeq (mIfS (mOrT (mNotT (mTruth (mCall [] m_is_value (mCons (mVar 0) (mCons (mVar 3) (mNil)))))) (mCmpT gLt (mVar 3) (mVar 2))) (mRet (mC (.bl false))) (mSkip)) (mAsg (putSlot 2) (mOp gAdd (mVar 3) (mC (.int 1))))) (xs.map .val) [.sh (.int s), .sh x, .sh (.int k), v] = .nx sd) ∨
    (isS s k xs = false ∧ ∃ sd, forGo (putSlot 3) (mSeq (mIfS (mOrT (mNotT (mTruth (mCall [] m_is_value (mCons (mVar 0) (mCons (mVar 3) (mNil)))))) (mCmpT gLt (mVar 3) (mVar 2))) (mRet (mC (.bl false))) (mSkip)) (mAsg (putSlot 2) (mOp gAdd (mVar 3) (mC (.int 1))))) (xs.map .val) [.sh (.int s), .sh x, .sh (.int k), v] = .ret (.val (.bl false)) sd) := by
  induction xs generalizing k v with
  | nil => exact .inl ⟨rfl, _, rfl⟩
  | cons y ys ih =>
    rw [imms_cons, Bool.and_eq_true] at hx
    have hy := value_eq s y hx.1
    rw [List.map_cons, forGo_cons]
    cases y with
    | int i =>
      by_cases h0 : 0 ≤ i
      · by_cases h1 : i < s
        · by_cases h2 : i < k
          · right
            have : isS s k (.int i :: ys) = false := by simp [isS]; omega
            refine ⟨this, ?_⟩
            simp [hv, hy, isV, h0, h1, h2]
          · simp [hv, hy, isV, h0, h1, h2]
            have e : isS s k (.int i :: ys) = isS s (i + 1) ys := by
              have : k ≤ i := by omega
              simp [isS, h1, this]
            rw [e]
            exact ih (i + 1) (.sh (.int i)) rfl (by omega) hx.2
        · right
          refine ⟨by simp [isS, h1], ?_⟩
          simp [hv, hy, isV, h0, h1]
      · right
        refine ⟨by simp [isS]; omega, ?_⟩
        simp [hv, hy, isV, h0]
    | _ =>
      right
      refine ⟨by simp [isS], ?_⟩
      simp [hv, hy, isV]
theorem sign_eq (s : Int) (d : D) (hd : d.imm = true) : m_is_sign [.sh (.int s), .sh d] = .ok (.val (.bl (isSign s d))) [] := by
  unfold m_is_sign b_is_sign
  cases d with
  | tup xs =>
    rcases sign_loop s 0 (.tup xs) .no xs rfl (by omega) hd with ⟨e, sd, h⟩ | ⟨e, sd, h⟩
    · simp [h, isSign, e]
    · simp [h, isSign, e]
  | int i => simp [isSign]
  | bl b => simp [isSign]
  | non => simp [isSign]
  | str x => simp [isSign]
  | _ => cases hd
theorem law_sign_loop (s k : Int) (x : D) (v : SV) (xs : List D) (hv : canPut (some v) = true) (hx : D.imms xs = true) :
    (isS s k xs = true ∧ ∃ sd, forGo (putSlot 3) (mSeq (mIfS (mOrT (mNotT (mTruth (mIsa "int" (mVar 3)))) (mOrT (mTruth (mIsa "bool" (mVar 3))) (mNotT (mB (mChain gLe gLt (mVar 2) (mVar 3) (mVar 0)))))) (mRet (mC (.bl false))) (mSkip)) (mAsg (putSlot 2) (mOp gAdd (mVar 3) (mC (.int 1))))) (xs.map .val) [.sh (.int s), .sh x, .sh (.int k), v] = .nx sd) ∨
    (isS s k xs = false ∧ ∃ sd, forGo (putSlot 3) (mSeq (mIfS (mOrT (mNotT (mTruth (mIsa "int" (mVar 3)))) (mOrT (mTruth (mIsa "bool" (mVar 3))) (mNotT (mB (mChain gLe gLt (mVar 2) (mVar 3) (mVar 0)))))) (mRet (mC (.bl false))) (mSkip)) (mAsg (putSlot 2) (mOp gAdd (mVar 3) (mC (.int 1))))) (xs.map .val) [.sh (.int s), .sh x, .sh (.int k), v] = .ret (.val (.bl false)) sd) := by
  induction xs generalizing k v with
  | nil => exact .inl ⟨rfl, _, rfl⟩
  | cons y ys ih =>
    rw [imms_cons, Bool.and_eq_true] at hx
    rw [List.map_cons, forGo_cons]
    cases y with
    | int i =>
      by_cases h0 : k ≤ i
      · by_cases h1 : i < s
        · simp [hv, h0, h1]
          have e : isS s k (.int i :: ys) = isS s (i + 1) ys := by simp [isS, h1, h0]
          rw [e]
          exact ih (i + 1) (.sh (.int i)) rfl hx.2
        · right
          refine ⟨by simp [isS, h1], ?_⟩
          simp [hv, h0, h1]
      · right
        refine ⟨by simp [isS]; omega, ?_⟩
        simp [hv, h0]
    | dic _ => cases hx.1
    | lst _ => cases hx.1
    | obj _ _ => cases hx.1
    | _ =>
      right
      refine ⟨by simp [isS], ?_⟩
      simp [hv]
theorem law_sign_eq (s : Int) (d : D) (hd : d.imm = true) : m__law_is_sign [.sh (.int s), .sh d] = .ok (.val (.bl (isSign s d))) [] := by
  unfold m__law_is_sign b__law_is_sign
  cases d with
  | tup xs =>
    rcases law_sign_loop s 0 (.tup xs) .no xs rfl hd with ⟨e, sd, h⟩ | ⟨e, sd, h⟩
    · simp [h, isSign, e]
    · simp [h, isSign, e]
  | int i => simp [isSign]
  | bl b => simp [isSign]
  | non => simp [isSign]
  | str x => simp [isSign]
  | _ => cases hd
theorem exact_bl (b : Bool) : m__law_exact [.sh (.bl b), .sh (.bl b)] = .ok (.val (.bl true)) [] := by
  cases b <;> exact okT_eq (by decide +kernel)
theorem twin_eq (xs : List D) (hx : D.imms xs = true) (hl : xs.length ≤ 1000) : ∃ ys, D.imms ys = true ∧ ys.length = xs.length ∧ m__law_twin [.sh (.tup xs)] = .ok (.val (.tup ys)) [] := by
  have h := for_all (g := putSlot 2) (b := mIfS (mAndT (mTruth (mIsa "int" (mVar 2))) (mAndT (mNotT (mTruth (mIsa "bool" (mVar 2)))) (mB (mChain gLe gLt (mC (.int 0)) (mVar 2) (mC (.int 2)))))) (mExpr (mMut D.isLst gAppend 1 (mCons (mOp gEq (mVar 2) (mC (.int 1))) (mNil)))) (mExpr (mMut D.isLst gAppend 1 (mCons (mVar 2) (mNil)))))
    (xs.map .val) (fun i sd => ∃ ys v, canPut (some v) = true ∧ D.imms ys = true ∧ ys.length = i ∧ sd = [.sh (.tup xs), .own (.lst ys), v]) [.sh (.tup xs), .own (.lst []), .no] ⟨[], .no, rfl, rfl, rfl, rfl⟩
    (fun i sd hi ⟨ys, v, hv, h1, h2, h3⟩ => by
      subst h3
      have hi' : i < xs.length := by simpa using hi
      have hxi := (imms_all.mp hx) xs[i] (List.getElem_mem hi')
      have hlt : ys.length < 16777216 := by omega
      rw [List.getElem_map]
      cases hxe : xs[i] with
      | int k =>
        by_cases h0 : 0 ≤ k
        · by_cases h4 : k < 2
          · refine ⟨_, by simp [hv, h0, h4, sizeN, hlt]; rfl, ys ++ [.bl (k == 1)], _, ?_, ?_, ?_, rfl⟩ <;> simp [h1, h2]
          · refine ⟨_, by simp [hv, h0, h4, sizeN, hlt]; rfl, ys ++ [.int k], _, ?_, ?_, ?_, rfl⟩ <;> simp [h1, h2]
        · refine ⟨_, by simp [hv, h0, sizeN, hlt]; rfl, ys ++ [.int k], _, ?_, ?_, ?_, rfl⟩ <;> simp [h1, h2]
      | dic _ => rw [hxe] at hxi; cases hxi
      | lst _ => rw [hxe] at hxi; cases hxi
      | obj _ _ => rw [hxe] at hxi; cases hxi
      | tup zs =>
        rw [hxe] at hxi
        refine ⟨_, by simp [hv, sizeN, hlt]; rfl, ys ++ [.tup zs], _, ?_, ?_, ?_, rfl⟩ <;> simp [h1, h2]
        simpa using hxi
      | bl b => refine ⟨_, by simp [hv, sizeN, hlt]; rfl, ys ++ [.bl b], _, ?_, ?_, ?_, rfl⟩ <;> simp [h1, h2]
      | non => refine ⟨_, by simp [hv, sizeN, hlt]; rfl, ys ++ [.non], _, ?_, ?_, ?_, rfl⟩ <;> simp [h1, h2]
      | str b => refine ⟨_, by simp [hv, sizeN, hlt]; rfl, ys ++ [.str b], _, ?_, ?_, ?_, rfl⟩ <;> simp [h1, h2])
  obtain ⟨sd', e, ys, v, hv, h1, h2, rfl⟩ := h
  refine ⟨ys, h1, by simpa using h2, ?_⟩
  unfold m__law_twin b__law_twin
  simp [e, sizeN, h1]
end G

namespace G
open Av
def Dig (s : Int) (ns : List Int) : Prop := ∀ x ∈ ns, 0 ≤ x ∧ x < s
theorem drawn_sign {st : D} (hs : Str3 st) (n : Nat) (hn : 0 < n ∧ n ≤ 4) : ∃ sg st', Str3 st' ∧ Dig n sg ∧ sg.length ≤ 4 ∧ m__law_sign [.io st, .sh (.int n), .sh (.int 0)] = .ok (.val (.tup (sg.map .int))) [st'] := by
  have h := for_range (g := putSlot 4) (b := (mIfS (mCmpT gEq (mCall [0] m__law_next (mCons (mVar 0) (mCons (mC (.int 2)) (mNil)))) (mC (.int 1))) (mAsg (putSlot 3) (mOp gAdd (mVar 3) (mTup (mCons (mVar 4) (mNil))))) (mSkip))) (lo := 0) (n := n)
    (fun i sd => ∃ st sg v, Str3 st ∧ canPut (some v) = true ∧ sg.length ≤ i ∧ Dig n sg ∧ sd = [.io st, .sh (.int n), .sh (.int 0), .sh (.tup (sg.map .int)), v])
    [.io st, .sh (.int n), .sh (.int 0), .sh (.tup []), .no] ⟨st, [], .no, hs, rfl, Nat.le_refl _, (fun x hx => nomatch hx), rfl⟩
    (fun i sd hi ⟨st, sg, v, h1, hv, h2, h3, h4⟩ => by
      subst h4
      obtain ⟨d, st', s1, d0, d1, e⟩ := next_eq h1 2 (by omega) (by omega)
      have hl : sg.length + 1 ≤ 16777216 := by omega
      by_cases hd : d = 1
      · refine ⟨_, by simp [hv, e, hd, sizeN, hl]; rfl, st', sg ++ [(i : Int)], .sh (.int (i : Int)), s1, ?_, ?_, ?_, ?_⟩
        · exact rfl
        · simp; exact h2
        · intro x hx
          rcases List.mem_append.mp hx with hx | hx
          · exact h3 x hx
          · simp at hx; subst hx; omega
        · simp
      · refine ⟨_, by simp [hv, e, hd]; rfl, st', sg, _, s1, rfl, by omega, h3, rfl⟩)
  obtain ⟨sd', e, st, sg, v, h1, hv, h2, h3, rfl⟩ := h
  refine ⟨sg, st, h1, h3, by omega, ?_⟩
  unfold m__law_sign b__law_sign
  have hr : rangeOk (n : Int) = true := rangeOk_small (by omega) (by omega)
  have hneg : ¬ ((sg.length : Int) < 0) := by omega
  simp -implicitDefEqProofs [hr, e, sizeN, hneg]
theorem atI_at {α : Type} {xs : List α} {k : Nat} (h : k < xs.length) : L2.atI xs (k : Int) = some xs[k] := by
  simp [L2.atI, L2.ixN, h]
theorem item_eq {st : D} (hs : Str3 st) (s : Int) : ∃ d st', Str3 st' ∧ d.imm = true ∧ (∀ xs, d = .tup xs → xs.length ≤ 20) ∧ m__law_item [.io st, .sh (.int s)] = .ok (.val d) [st'] := by
  obtain ⟨d, st', s1, d0, d1, e⟩ := next_eq hs 16 (by omega) (by omega)
  obtain ⟨k, rfl⟩ := Int.eq_ofNat_of_zero_le d0
  have hk : k < 16 := by omega
  have hk' : k < ([.int 0, .int 1, .int (s - 1), .int s, .int (-1), .bl true, .bl false, .non, .str "0", .str "", .tup [], .tup [.int 0], .int (10 ^ 30), .int (s + 1), .int (-2), .tup [.tup [.int 0]]] : List D).length := hk
  have hP : ∀ d ∈ ([.int 0, .int 1, .int (s - 1), .int s, .int (-1), .bl true, .bl false, .non, .str "0", .str "", .tup [], .tup [.int 0], .int (10 ^ 30), .int (s + 1), .int (-2), .tup [.tup [.int 0]]] : List D), d.imm = true ∧ ∀ xs, d = .tup xs → xs.length ≤ 20 := by
    simp
  have hq := hP _ (List.getElem_mem hk')
  have ha := atI_at hk'
  refine ⟨_, st', s1, hq.1, hq.2, ?_⟩
  generalize hx : ([.int 0, .int 1, .int (s - 1), .int s, .int (-1), .bl true, .bl false, .non, .str "0", .str "", .tup [], .tup [.int 0], .int (10 ^ 30), .int (s + 1), .int (-2), .tup [.tup [.int 0]]] : List D)[k] = x at ha
  unfold m__law_item b__law_item
  simp at ha
  simp [e, sizeN, ha]
end G

namespace G
open Av
theorem near_eq {st : D} (hs : Str3 st) (n : Nat) (hn : 0 < n ∧ n ≤ 4) (w : Nat) (hw : w < 9) : ∃ d st', Str3 st' ∧ d.imm = true ∧ (∀ xs, d = .tup xs → xs.length ≤ 20) ∧ m__law_near [.io st, .sh (.int n), .sh (.int w)] = .ok (.val d) [st'] := by
  obtain ⟨sg, st1, s1, hd, hl, e1⟩ := drawn_sign hs n hn
  obtain ⟨a, st2, s2, a0, a1, e2⟩ := next_eq s1 ((sg.length : Int) + 1) (by omega) (by omega)
  obtain ⟨it, st3, s3, hi, hit, e3⟩ := item_eq s2 (n : Int)
  have himm : D.imms (sg.map D.int) = true := imms_ints
  have hlen : (sg.map D.int).length ≤ 4 := by rw [List.length_map]; exact hl
  have cut : ∀ lo hi, D.imms (cutD (sg.map D.int) lo hi) = true ∧ (cutD (sg.map D.int) lo hi).length ≤ 4 := fun lo hi => ⟨imms_cut himm lo hi, Nat.le_trans (cutD_length lo hi) hlen⟩
  unfold m__law_near b__law_near
  have hcase : w = 0 ∨ w = 1 ∨ w = 2 ∨ w = 3 ∨ w = 4 ∨ w = 5 ∨ w = 6 ∨ w = 7 ∨ w = 8 := by omega
  rcases hcase with rfl | rfl | rfl | rfl | rfl | rfl | rfl | rfl | rfl
  · refine ⟨.tup (sg.map D.int), st3, s3, himm, (fun xs z => by cases z; omega), ?_⟩
    simp -implicitDefEqProofs [e1, e2, e3]
  · obtain ⟨i1, l1⟩ := cut none (some a)
    obtain ⟨i2, l2⟩ := cut (some a) none
    refine ⟨.tup (cutD (sg.map D.int) none (some a) ++ [it] ++ cutD (sg.map D.int) (some a) none), st3, s3, ?_, (fun xs z => by cases z; simp; omega), ?_⟩
    · simp [i1, i2, hi]
    · have g1 : (cutD (sg.map D.int) none (some a)).length + 1 ≤ 16777216 := by omega
      have g2 : (cutD (sg.map D.int) none (some a)).length + ((cutD (sg.map D.int) (some a) none).length + 1) ≤ 16777216 := by omega
      have g3 : (cutD (sg.map D.int) none (some a)).length + 1 + (cutD (sg.map D.int) (some a) none).length ≤ 16777216 := by omega
      simp -implicitDefEqProofs [e1, e2, e3, i1, i2, hi, g1, g2, g3, sizeN]
  · obtain ⟨i1, l1⟩ := cut none (some a)
    obtain ⟨i2, l2⟩ := cut (some (a + 1)) none
    refine ⟨.tup (cutD (sg.map D.int) none (some a) ++ [it] ++ cutD (sg.map D.int) (some (a + 1)) none), st3, s3, ?_, (fun xs z => by cases z; simp; omega), ?_⟩
    · simp [i1, i2, hi]
    · have g1 : (cutD (sg.map D.int) none (some a)).length + 1 ≤ 16777216 := by omega
      have g2 : (cutD (sg.map D.int) none (some a)).length + ((cutD (sg.map D.int) (some (a + 1)) none).length + 1) ≤ 16777216 := by omega
      have g3 : (cutD (sg.map D.int) none (some a)).length + 1 + (cutD (sg.map D.int) (some (a + 1)) none).length ≤ 16777216 := by omega
      simp -implicitDefEqProofs [e1, e2, e3, i1, i2, hi, g1, g2, g3, sizeN]
  · obtain ⟨i1, l1⟩ := cut none (some (a + 1))
    obtain ⟨i2, l2⟩ := cut (some a) none
    refine ⟨.tup (cutD (sg.map D.int) none (some (a + 1)) ++ cutD (sg.map D.int) (some a) none), st3, s3, ?_, (fun xs z => by cases z; simp; omega), ?_⟩
    · simp [i1, i2]
    · have g1 : (cutD (sg.map D.int) none (some (a + 1))).length + (cutD (sg.map D.int) (some a) none).length ≤ 16777216 := by omega
      simp -implicitDefEqProofs [e1, e2, e3, i1, i2, g1, sizeN]
  · obtain ⟨i1, l1⟩ := cut none (some a)
    obtain ⟨i2, l2⟩ := cut (some a) none
    refine ⟨.tup (cutD (sg.map D.int) (some a) none ++ cutD (sg.map D.int) none (some a)), st3, s3, ?_, (fun xs z => by cases z; simp; omega), ?_⟩
    · simp [i1, i2]
    · have g1 : (cutD (sg.map D.int) (some a) none).length + (cutD (sg.map D.int) none (some a)).length ≤ 16777216 := by omega
      simp -implicitDefEqProofs [e1, e2, e3, i1, i2, g1, sizeN]
  · obtain ⟨ds, h1, h2, h3⟩ := comp_ex (vs := [6]) (g := putSlot 6) (mt := mPure true) (me := mIx (mVar 3) (mOp gSub (mOp gSub (mCallB gLen (mCons (mVar 3) (mNil))) (mC (.int 1))) (mVar 6)))
      (B := [.io st3, .sh (.int n), .sh (.int (5 : Nat)), .sh (.tup (sg.map D.int)), .sh (.int a), .sh it, .no, .no]) (fun d => d.imm = true) (rangeItems 0 sg.length) []
      [.io st3, .sh (.int n), .sh (.int (5 : Nat)), .sh (.tup (sg.map D.int)), .sh (.int a), .sh it, .no, .no] (by simp) (by simp [sizeN]; omega) (fun r hr => by
        obtain ⟨i, hi⟩ := List.getElem?_of_mem hr
        have hil : i < sg.length := by have := (List.getElem?_eq_some_iff.mp hi).1; simpa using this
        rw [rangeItems_get? hil] at hi
        cases hi
        have hk : (sg.length - 1 - i) < sg.length := by omega
        have hat : L2.atI (sg.map D.int) ((sg.length : Int) - 1 - (i : Int)) = some (.int sg[sg.length - 1 - i]) := by
          have e : (sg.length : Int) - 1 - (i : Int) = ((sg.length - 1 - i : Nat) : Int) := by omega
          rw [e, atI_at (by rw [List.length_map]; exact hk)]
          simp
        refine ⟨_, _, true, by simp; rfl, rfl, (fun z => nomatch z), fun _ => ⟨.int sg[sg.length - 1 - i], _, by simp [hat]; rfl, rfl, by simp⟩⟩)
    refine ⟨.tup ds, st3, s3, imms_all.mpr h1, (fun xs z => by cases z; simp at h2; omega), ?_⟩
    have hr : rangeOk (sg.length : Int) = true := rangeOk_small (by omega) (by omega)
    have himm2 : D.imms ds = true := imms_all.mpr h1
    simp at h3
    simp -implicitDefEqProofs [e1, e2, e3, hr, h3, himm2]
  · obtain ⟨ds, h1, h2, h3⟩ := comp_ex (vs := [7]) (g := putSlot 7) (mt := mPure true) (me := mIx (mLst (mCons (mC (.bl false)) (mCons (mC (.bl true)) (mCons (mC (.int 2)) (mCons (mC (.int 3)) (mNil)))))) (mVar 7))
      (B := [.io st3, .sh (.int n), .sh (.int (6 : Nat)), .sh (.tup (sg.map D.int)), .sh (.int a), .sh it, .no, .no]) (fun d => d.imm = true) ((sg.map D.int).map RV.val) []
      [.io st3, .sh (.int n), .sh (.int (6 : Nat)), .sh (.tup (sg.map D.int)), .sh (.int a), .sh it, .no, .no] (by simp) (by simp [sizeN]; omega) (fun r hr => by
        simp only [List.map_map, List.mem_map] at hr
        obtain ⟨x, hx, rfl⟩ := hr
        have hx2 := hd x hx
        have : x = 0 ∨ x = 1 ∨ x = 2 ∨ x = 3 := by omega
        refine ⟨_, _, true, by simp; rfl, rfl, (fun z => nomatch z), fun _ => ?_⟩
        rcases this with rfl | rfl | rfl | rfl <;> exact ⟨_, _, by simp [sizeN, L2.atI, L2.ixN]; exact ⟨rfl, rfl⟩, rfl, by simp⟩)
    refine ⟨.tup ds, st3, s3, imms_all.mpr h1, (fun xs z => by cases z; simp at h2; omega), ?_⟩
    have himm2 : D.imms ds = true := imms_all.mpr h1
    simp at h3
    simp -implicitDefEqProofs [e1, e2, e3, h3, himm2]
  · refine ⟨.tup [.tup (sg.map D.int)], st3, s3, by simp, (fun xs z => by cases z; simp), ?_⟩
    simp -implicitDefEqProofs [e1, e2, e3, sizeN]
  · refine ⟨it, st3, s3, hi, hit, ?_⟩
    simp -implicitDefEqProofs [e1, e2, e3]

/-- one datum, the three sizes -/
theorem data_step (d0 d1 d2 d3 d4 : SV) (x : D) (v5 v6 : SV) (hx : x.imm = true) (h5 : canPut (some v5) = true) (h6 : canPut (some v6) = true) :
    ∃ v5' v6', canPut (some v5') = true ∧ canPut (some v6') = true ∧ putK (putSlot 5 (.val x) [d0, d1, d2, d3, d4, v5, v6]) ((mFor (mSeqIt (mLst (mCons (mC (.int 2)) (mCons (mC (.int 3)) (mCons (mC (.int 4)) (mNil)))))) (putSlot 6) (mSeq (mIfS (mNotT (mTruth (mCall [] m__law_exact (mCons (mCall [] m_is_sign (mCons (mVar 6) (mCons (mVar 5) (mNil)))) (mCons (mCall [] m__law_is_sign (mCons (mVar 6) (mCons (mVar 5) (mNil)))) (mNil)))))) (mRet (mC (.bl false))) (mSkip)) (mIfS (mNotT (mTruth (mCall [] m__law_exact (mCons (mCall [] m_is_value (mCons (mVar 6) (mCons (mVar 5) (mNil)))) (mCons (mCall [] m__law_is_value (mCons (mVar 6) (mCons (mVar 5) (mNil)))) (mNil)))))) (mRet (mC (.bl false))) (mSkip))))) = .nx [d0, d1, d2, d3, d4, v5', v6'] := by
  refine ⟨.sh x, .sh (.int 4), rfl, rfl, ?_⟩
  have a1 := fun s => sign_eq s x hx
  have a2 := fun s => law_sign_eq s x hx
  have a3 := fun s => value_eq s x hx
  have a4 := fun s => law_value_eq s x hx
  simp -implicitDefEqProofs [h5, h6, sizeN, forGo_cons, a1, a2, a3, a4, exact_bl]
theorem data_eq {st : D} (hs : Str3 st) (n : Nat) (hn : 0 < n ∧ n ≤ 4) (w : Nat) (hw : w < 9) : ∃ st', Str3 st' ∧ m__law_data_right [.io st, .sh (.int n), .sh (.int w)] = .ok (.val (.bl true)) [st'] := by
  obtain ⟨d, st', s1, hd, hl, e⟩ := near_eq hs n hn w hw
  refine ⟨st', s1, ?_⟩
  have loop : ∀ (data : List D) (w' : SV), (∀ x ∈ data, x.imm = true) → ∃ sd, forGo (putSlot 5) (mFor (mSeqIt (mLst (mCons (mC (.int 2)) (mCons (mC (.int 3)) (mCons (mC (.int 4)) (mNil)))))) (putSlot 6) (mSeq (mIfS (mNotT (mTruth (mCall [] m__law_exact (mCons (mCall [] m_is_sign (mCons (mVar 6) (mCons (mVar 5) (mNil)))) (mCons (mCall [] m__law_is_sign (mCons (mVar 6) (mCons (mVar 5) (mNil)))) (mNil)))))) (mRet (mC (.bl false))) (mSkip)) (mIfS (mNotT (mTruth (mCall [] m__law_exact (mCons (mCall [] m_is_value (mCons (mVar 6) (mCons (mVar 5) (mNil)))) (mCons (mCall [] m__law_is_value (mCons (mVar 6) (mCons (mVar 5) (mNil)))) (mNil)))))) (mRet (mC (.bl false))) (mSkip)))) (data.map .val) [.io st', .sh (.int n), .sh (.int w), .sh d, w', .no, .no] = .nx sd ∧ ∃ v5 v6, sd = [.io st', .sh (.int n), .sh (.int w), .sh d, w', v5, v6] := by
    intro data w' hx
    obtain ⟨sd, h1, v5, v6, h2, h3, h4⟩ := for_all (data.map RV.val) (fun _ sd => ∃ v5 v6, canPut (some v5) = true ∧ canPut (some v6) = true ∧ sd = [.io st', .sh (.int n), .sh (.int w), .sh d, w', v5, v6]) _ ⟨.no, .no, rfl, rfl, rfl⟩ (fun i sd hi ⟨v5, v6, h5, h6, h7⟩ => by
      subst h7
      rw [List.getElem_map]
      obtain ⟨v5', v6', k1, k2, k3⟩ := data_step (.io st') (.sh (.int n)) (.sh (.int w)) (.sh d) w' _ v5 v6 (hx _ (List.getElem_mem (by simpa using hi))) h5 h6
      exact ⟨_, k3, v5', v6', k1, k2, rfl⟩)
    exact ⟨sd, h1, v5, v6, h4⟩
  unfold m__law_data_right b__law_data_right
  cases d with
  | tup xs =>
    have hx : D.imms xs = true := hd
    have hxl : xs.length ≤ 20 := hl xs rfl
    obtain ⟨ys, y1, y2, y3⟩ := twin_eq xs hx (by omega)
    obtain ⟨sd, h1, v5, v6, rfl⟩ := loop ([.tup xs, .tup ys, .tup xs] ++ xs) (.sh (.lst ([.tup xs, .tup ys, .tup xs] ++ xs))) (fun x hxm => by
      simp at hxm
      rcases hxm with rfl | rfl | rfl | hxm
      · exact hx
      · exact y1
      · exact hx
      · exact imms_all.mp hx x hxm)
    have g1 : 3 + xs.length ≤ 16777216 := by omega
    have g2 : xs.length + 1 + 1 + 1 ≤ 16777216 := by omega
    simp at h1
    simp -implicitDefEqProofs [e, y3, hx, y1, sizeN, g1, g2, h1]
  | dic _ => cases hd
  | lst _ => cases hd
  | obj _ _ => cases hd
  | int k =>
    obtain ⟨sd, h1, v5, v6, rfl⟩ := loop [.int k] (.sh (.lst [.int k])) (fun x hxm => by
      rw [List.mem_singleton] at hxm
      subst hxm
      exact hd)
    simp at h1
    simp -implicitDefEqProofs [e, sizeN, h1]
  | bl b =>
    obtain ⟨sd, h1, v5, v6, rfl⟩ := loop [.bl b] (.sh (.lst [.bl b])) (fun x hxm => by
      rw [List.mem_singleton] at hxm
      subst hxm
      exact hd)
    simp at h1
    simp -implicitDefEqProofs [e, sizeN, h1]
  | str x =>
    obtain ⟨sd, h1, v5, v6, rfl⟩ := loop [.str x] (.sh (.lst [.str x])) (fun x hxm => by
      rw [List.mem_singleton] at hxm
      subst hxm
      exact hd)
    simp at h1
    simp -implicitDefEqProofs [e, sizeN, h1]
  | non =>
    obtain ⟨sd, h1, v5, v6, rfl⟩ := loop [.non] (.sh (.lst [.non])) (fun x hxm => by
      rw [List.mem_singleton] at hxm
      subst hxm
      exact hd)
    simp at h1
    simp -implicitDefEqProofs [e, sizeN, h1]
end G

namespace G
open Av
theorem t2 : okT (m__law_signs_right [.sh (.int 2)]) = true := by decide +kernel
theorem t3 : okT (m__law_signs_right [.sh (.int 3)]) = true := by decide +kernel
theorem t4 : okT (m__law_signs_right [.sh (.int 4)]) = true := by decide +kernel
theorem r2 : ∀ k : Fin 7, okT (m__law_rows_right [.sh (.int 2), .sh (.int (k.val : Int))]) = true := by decide +kernel
theorem r3 : ∀ k : Fin 5, okT (m__law_rows_right [.sh (.int 3), .sh (.int (k.val : Int))]) = true := by decide +kernel
theorem r4 : ∀ k : Fin 5, okT (m__law_rows_right [.sh (.int 4), .sh (.int (k.val : Int))]) = true := by decide +kernel
theorem signs_ok (n : Nat) (h : n = 2 ∨ n = 3 ∨ n = 4) : m__law_signs_right [.sh (.int n)] = .ok (.val (.bl true)) [] := by
  rcases h with rfl | rfl | rfl
  · exact okT_eq t2
  · exact okT_eq t3
  · exact okT_eq t4
def lim (n : Nat) : Nat := if n = 2 then 7 else 5
theorem rows_ok (n : Nat) (h : n = 2 ∨ n = 3 ∨ n = 4) (k : Nat) (hk : k < lim n) : m__law_rows_right [.sh (.int n), .sh (.int k)] = .ok (.val (.bl true)) [] := by
  rcases h with rfl | rfl | rfl
  · exact okT_eq (r2 ⟨k, hk⟩)
  · exact okT_eq (r3 ⟨k, hk⟩)
  · exact okT_eq (r4 ⟨k, hk⟩)
theorem law_holds (ns : List Int) (hl : ns.length ≤ 63) : m_law [.sh (.lst (ns.map .int))] = .ok (.val (.bl true)) [] := by
  obtain ⟨c0, e0⟩ := cell_eq ns 0
  obtain ⟨c1, e1⟩ := cell_eq ns 1
  obtain ⟨st, s0, e2⟩ := stream_eq c0
  obtain ⟨sh, h0, e3⟩ := stream_eq c1
  obtain ⟨d, st1, s1, d0, d1, e4⟩ := next_eq s0 3 (by omega) (by omega)
  obtain ⟨k, rfl⟩ := Int.eq_ofNat_of_zero_le d0
  have hk : k < 3 := by omega
  have sizes := for_all (g := putSlot 3) (b := (mSeq (mIfS (mNotT (mTruth (mCall [] m__law_signs_right (mCons (mVar 3) (mNil))))) (mRet (mC (.bl false))) (mSkip)) (mIfS (mNotT (mTruth (mCall [] m__law_rows_right (mCons (mVar 3) (mCons (mCall [0] m__law_next (mCons (mVar 1) (mCons (mIx (mLst (mCons (mC (.int 0)) (mCons (mC (.int 0)) (mCons (mC (.int 7)) (mCons (mC (.int 5)) (mCons (mC (.int 5)) (mNil))))))) (mVar 3)) (mNil)))) (mNil)))))) (mRet (mC (.bl false))) (mSkip))))
    [.val (.int ((2 + k : Nat) : Int)), .val (.int (2 : Nat)), .val (.int (3 : Nat)), .val (.int (4 : Nat))]
    (fun _ sd => ∃ st v, Str3 st ∧ canPut (some v) = true ∧ sd = [.sh (.lst (ns.map .int)), .own st, .sh (.int ((2 + k : Nat) : Int)), v, .no, .no])
    [.sh (.lst (ns.map .int)), .own st1, .sh (.int ((2 + k : Nat) : Int)), .no, .no, .no] ⟨st1, .no, s1, rfl, rfl⟩ (fun i sd hi ⟨st, v, a1, a2, a3⟩ => by
      subst a3
      have key : ∀ n : Nat, (n = 2 ∨ n = 3 ∨ n = 4) → ∃ sd', putK (putSlot 3 (.val (.int (n : Int))) [.sh (.lst (ns.map .int)), .own st, .sh (.int ((2 + k : Nat) : Int)), v, .no, .no]) (mSeq (mIfS (mNotT (mTruth (mCall [] m__law_signs_right (mCons (mVar 3) (mNil))))) (mRet (mC (.bl false))) (mSkip)) (mIfS (mNotT (mTruth (mCall [] m__law_rows_right (mCons (mVar 3) (mCons (mCall [0] m__law_next (mCons (mVar 1) (mCons (mIx (mLst (mCons (mC (.int 0)) (mCons (mC (.int 0)) (mCons (mC (.int 7)) (mCons (mC (.int 5)) (mCons (mC (.int 5)) (mNil))))))) (mVar 3)) (mNil)))) (mNil)))))) (mRet (mC (.bl false))) (mSkip))) = .nx sd' ∧ ∃ st v, Str3 st ∧ canPut (some v) = true ∧ sd' = [.sh (.lst (ns.map .int)), .own st, .sh (.int ((2 + k : Nat) : Int)), v, .no, .no] := by
        intro n hn
        have q1 := signs_ok n hn
        obtain ⟨x, st', b1, b2, b3, b4⟩ := next_eq a1 ((lim n : Nat) : Int) (by unfold lim; split <;> omega) (by unfold lim; split <;> omega)
        obtain ⟨y, rfl⟩ := Int.eq_ofNat_of_zero_le b2
        have q2 := rows_ok n hn y (by omega)
        have hat : L2.atI [D.int 0, .int 0, .int 7, .int 5, .int 5] (n : Int) = some (.int ((lim n : Nat) : Int)) := by
          rcases hn with rfl | rfl | rfl <;> rfl
        exact ⟨_, by simp -implicitDefEqProofs [a2, q1, b4, q2, hat, sizeN]; rfl, st', _, b1, rfl, rfl⟩
      have hi4 : i < 4 := hi
      have : i = 0 ∨ i = 1 ∨ i = 2 ∨ i = 3 := by omega
      rcases this with rfl | rfl | rfl | rfl
      · exact key (2 + k) (by omega)
      · exact key 2 (by omega)
      · exact key 3 (by omega)
      · exact key 4 (by omega))
  obtain ⟨sd, f1, st2, v, s2, hv, rfl⟩ := sizes
  have data := for_range (g := putSlot 5) (b := (mIfS (mNotT (mTruth (mCall [0] m__law_data_right (mCons (mVar 4) (mCons (mOp gAdd (mC (.int 2)) (mOp gMod (mCallB gInt (mCons (mOp gAdd (mVar 2) (mVar 5)) (mNil))) (mC (.int 3)))) (mCons (mOp gMod (mCallB gInt (mCons (mVar 5) (mNil))) (mC (.int 9))) (mNil))))))) (mRet (mC (.bl false))) (mSkip))) (lo := 0) (n := 18)
    (fun _ sd => ∃ st' v', Str3 st' ∧ canPut (some v') = true ∧ sd = [.sh (.lst (ns.map .int)), .own st2, .sh (.int ((2 + k : Nat) : Int)), v, .own st', v'])
    [.sh (.lst (ns.map .int)), .own st2, .sh (.int ((2 + k : Nat) : Int)), v, .own sh, .no] ⟨sh, .no, h0, rfl, rfl⟩ (fun i sd hi ⟨st', v', a1, a2, a3⟩ => by
      subst a3
      obtain ⟨st3, b1, b2⟩ := data_eq a1 (2 + (2 + k + i) % 3) (by omega) (i % 9) (by omega)
      have c1 : (2 : Int) + (((2 + k : Nat) : Int) + (i : Int)) % 3 = ((2 + (2 + k + i) % 3 : Nat) : Int) := by omega
      have c2 : (i : Int) % 9 = ((i % 9 : Nat) : Int) := by omega
      have c0 : (0 : Int) + (i : Int) = (i : Int) := by omega
      rw [c0]
      rw [← c1, ← c2] at b2
      generalize hq : ((2 + k : Nat) : Int) = q at b2
      refine ⟨_, by simp -implicitDefEqProofs [a2, b2], st3, .sh (.int (i : Int)), b1, rfl, rfl⟩)
  obtain ⟨sd, f2, st3, v', s3, hv', rfl⟩ := data
  unfold m_law b_law
  have c3 : (2 : Int) + (k : Int) = ((2 + k : Nat) : Int) := by omega
  generalize hq : ((2 + k : Nat) : Int) = q at c3 f1 f2
  have r18 : rangeOk 18 = true := rfl
  simp at e0 e1 f1
  simp -implicitDefEqProofs [e0, e1, e2, e3, e4, c3, sizeN, f1, f2, r18]
end G

/-! walks: each def does what its mirror tells -/
namespace G
open PySem PySem.Spec PyProof.Rows L2 Av
def top (i : Nat) : Stmt := PySem.Challenge.pw_anytruths_k00_signs_and_rows.main.body.getD i (.Pass ⟨0, 0, 0, 0⟩)
structure Bi (mg : Str → Option Value) : Prop where
  b_abs : mg "abs" = none
  b_bool : mg "bool" = none
  b_int : mg "int" = none
  b_isinstance : mg "isinstance" = none
  b_len : mg "len" = none
  b_list : mg "list" = none
  b_range : mg "range" = none
  b_set : mg "set" = none
  b_sorted : mg "sorted" = none
  b_str : mg "str" = none
  b_tuple : mg "tuple" = none
section
variable {P : Program} {w : World} {K : PySem.W.Frag} {mg : Str → Option Value} {base : Heap}
abbrev s_is_value : Stmt := top 1
theorem sc_is_value : FnScope ["size", "datum"] ["size", "datum"] (defScope s_is_value) := ⟨rfl, rfl, rfl, by decide +kernel, rfl, by decide +kernel, by decide +kernel⟩
theorem ok_is_value (B : Bi mg) (S : Src K mg "is_value" s_is_value ["size", "datum"])  : Can P w K mg base 1 "is_value" ["size", "datum"] (spD ⟨K, mg⟩ [] m_is_value) := Can.of (k := 0) S sc_is_value fun f cdv A outer s H E fx hr =>
  sss_one (ss_ret (se_and (se_isa rfl B.b_isinstance rfl rfl B.b_int rfl (se_v 1)) (se_and (se_not (se_isa rfl B.b_isinstance rfl rfl B.b_bool rfl (se_v 1))) (se_one (se_chain os_le os_lt (se_int) (se_v 1) (se_v 0))))))
abbrev s_is_sign : Stmt := top 2
theorem sc_is_sign : FnScope ["size", "datum", "least", "value"] ["size", "datum"] (defScope s_is_sign) := ⟨rfl, rfl, rfl, by decide +kernel, rfl, by decide +kernel, by decide +kernel⟩
theorem ok_is_sign (B : Bi mg) (S : Src K mg "is_sign" s_is_sign ["size", "datum"]) (C_is_value : Can P w K mg base 1 "is_value" ["size", "datum"] (spD ⟨K, mg⟩ [] m_is_value)) : Can P w K mg base 2 "is_sign" ["size", "datum"] (spD ⟨K, mg⟩ [] m_is_sign) := Can.of (k := 1) S sc_is_sign fun f cdv A outer s H E fx hr =>
  sss_cons (ss_if (st_not (st_truth (se_isa rfl B.b_isinstance rfl rfl B.b_tuple rfl (se_v 1)))) (sss_one (ss_ret (se_bl))) (sss_nil)) (sss_cons (ss_asg (se_int) (sg_v 2 sc_is_sign.nd)) (sss_cons (ss_for (passes_of rfl) rfl (si_seq (se_v 1)) (sg_v 3 sc_is_sign.nd) (sss_cons (ss_if (SW.st (sw_or (st_not (st_truth (se_own C_is_value (takes_of rfl rfl rfl rfl) hr (sa_cons (se_v 0) (sa_cons (se_v 3) (sa_nil)))))) (sw_or1 (st_cmp os_lt (se_v 3) (se_v 2) (nomark _))))) (sss_one (ss_ret (se_bl))) (sss_nil)) (sss_one (ss_asg (se_op os_add (se_v 3) (se_int)) (sg_v 2 sc_is_sign.nd))))) (sss_one (ss_ret (se_bl)))))
abbrev s_full_sign : Stmt := top 3
theorem sc_full_sign : FnScope ["size"] ["size"] (defScope s_full_sign) := ⟨rfl, rfl, rfl, by decide +kernel, rfl, by decide +kernel, by decide +kernel⟩
theorem ok_full_sign (B : Bi mg) (S : Src K mg "full_sign" s_full_sign ["size"])  : Can P w K mg base 1 "full_sign" ["size"] (spD ⟨K, mg⟩ [] m_full_sign) := Can.of (k := 0) S sc_full_sign fun f cdv A outer s H E fx hr =>
  sss_one (ss_ret (se_tupRg rfl rfl B.b_tuple rfl B.b_range (se_v 0)))
abbrev s_all_signs : Stmt := top 4
theorem sc_all_signs : FnScope ["size", "signs", "value", "sign"] ["size"] (defScope s_all_signs) := ⟨rfl, rfl, rfl, by decide +kernel, rfl, by decide +kernel, by decide +kernel⟩
theorem ok_all_signs (B : Bi mg) (S : Src K mg "all_signs" s_all_signs ["size"])  : Can P w K mg base 1 "all_signs" ["size"] (spD ⟨K, mg⟩ [] m_all_signs) := Can.of (k := 0) S sc_all_signs fun f cdv A outer s H E fx hr =>
  sss_cons (ss_asg (se_lst (sa_cons (se_tup (sa_nil)) (sa_nil))) (sg_v 1 sc_all_signs.nd)) (sss_cons (ss_for (passes_of rfl) rfl (si_range1 rfl B.b_range (sa_cons (se_v 0) (sa_nil))) (sg_v 2 sc_all_signs.nd) (sss_one (ss_asg (se_op os_add (se_v 1) (se_lc (own := [("sign", 3)]) rfl sc_all_signs.nd (si_seq (se_v 1)) (blkOk_by (N := ["size", "signs", "value", "sign"]) (sc := defScope s_all_signs) (by decide +kernel)) (SGb.of (fun fx s H C cl fp => sg_v 3 sc_all_signs.nd)) (STb.nil) (SEb.of (fun fx s H C cl fp => se_op os_add (se_v 3) (se_tup (sa_cons (se_v 2) (sa_nil))))) (by decide))) (sg_v 1 sc_all_signs.nd)))) (sss_one (ss_ret (se_callTy cs_tuple rfl B.b_tuple rfl (sa_cons (se_callB (cs_sorted (u64 hr)) rfl B.b_sorted rfl (sa_cons (se_v 1) (sa_nil))) (sa_nil))))))
abbrev s_other_values : Stmt := top 5
theorem sc_other_values : FnScope ["size", "sign", "value"] ["size", "sign"] (defScope s_other_values) := ⟨rfl, rfl, rfl, by decide +kernel, rfl, by decide +kernel, by decide +kernel⟩
theorem ok_other_values (B : Bi mg) (S : Src K mg "other_values" s_other_values ["size", "sign"])  : Can P w K mg base 1 "other_values" ["size", "sign"] (spD ⟨K, mg⟩ [] m_other_values) := Can.of (k := 0) S sc_other_values fun f cdv A outer s H E fx hr =>
  sss_one (ss_ret (se_callTy cs_tuple rfl B.b_tuple rfl (sa_cons (se_lc (own := [("value", 2)]) rfl sc_other_values.nd (si_range1 rfl B.b_range (sa_cons (se_v 0) (sa_nil))) (blkOk_by (N := ["size", "sign", "value"]) (sc := defScope s_other_values) (by decide +kernel)) (SGb.of (fun fx s H C cl fp => sg_v 2 sc_other_values.nd)) (STb.one (fun fx s H C cl fp => st_cmp (os_notIn (u65 hr)) (se_v 2) (se_v 1) (by with_unfolding_all rfl))) (SEb.of (fun fx s H C cl fp => se_v 2)) (by decide)) (sa_nil))))
abbrev s_sign_union : Stmt := top 6
theorem sc_sign_union : FnScope ["one", "two"] ["one", "two"] (defScope s_sign_union) := ⟨rfl, rfl, rfl, by decide +kernel, rfl, by decide +kernel, by decide +kernel⟩
theorem ok_sign_union (B : Bi mg) (S : Src K mg "sign_union" s_sign_union ["one", "two"])  : Can P w K mg base 1 "sign_union" ["one", "two"] (spD ⟨K, mg⟩ [] m_sign_union) := Can.of (k := 0) S sc_sign_union fun f cdv A outer s H E fx hr =>
  sss_one (ss_ret (se_callTy cs_tuple rfl B.b_tuple rfl (sa_cons (se_sortSet rfl rfl B.b_sorted rfl B.b_set (se_op os_add (se_v 0) (se_v 1))) (sa_nil))))
abbrev s_sign_common : Stmt := top 7
theorem sc_sign_common : FnScope ["one", "two", "value"] ["one", "two"] (defScope s_sign_common) := ⟨rfl, rfl, rfl, by decide +kernel, rfl, by decide +kernel, by decide +kernel⟩
theorem ok_sign_common (B : Bi mg) (S : Src K mg "sign_common" s_sign_common ["one", "two"])  : Can P w K mg base 1 "sign_common" ["one", "two"] (spD ⟨K, mg⟩ [] m_sign_common) := Can.of (k := 0) S sc_sign_common fun f cdv A outer s H E fx hr =>
  sss_one (ss_ret (se_callTy cs_tuple rfl B.b_tuple rfl (sa_cons (se_lc (own := [("value", 2)]) rfl sc_sign_common.nd (si_seq (se_v 0)) (blkOk_by (N := ["one", "two", "value"]) (sc := defScope s_sign_common) (by decide +kernel)) (SGb.of (fun fx s H C cl fp => sg_v 2 sc_sign_common.nd)) (STb.one (fun fx s H C cl fp => st_cmp (os_in (u65 hr)) (se_v 2) (se_v 1) (by with_unfolding_all rfl))) (SEb.of (fun fx s H C cl fp => se_v 2)) (by decide)) (sa_nil))))
abbrev s_sign_within : Stmt := top 8
theorem sc_sign_within : FnScope ["one", "two", "value"] ["one", "two"] (defScope s_sign_within) := ⟨rfl, rfl, rfl, by decide +kernel, rfl, by decide +kernel, by decide +kernel⟩
theorem ok_sign_within (B : Bi mg) (S : Src K mg "sign_within" s_sign_within ["one", "two"])  : Can P w K mg base 1 "sign_within" ["one", "two"] (spD ⟨K, mg⟩ [] m_sign_within) := Can.of (k := 0) S sc_sign_within fun f cdv A outer s H E fx hr =>
  sss_cons (ss_for (passes_of rfl) rfl (si_seq (se_v 0)) (sg_v 2 sc_sign_within.nd) (sss_one (ss_if (st_cmp (os_notIn (u65 hr)) (se_v 2) (se_v 1) (by with_unfolding_all rfl)) (sss_one (ss_ret (se_bl))) (sss_nil)))) (sss_one (ss_ret (se_bl)))
abbrev s_row_count : Stmt := top 9
theorem sc_row_count : FnScope ["size", "places", "count", "_"] ["size", "places"] (defScope s_row_count) := ⟨rfl, rfl, rfl, by decide +kernel, rfl, by decide +kernel, by decide +kernel⟩
theorem ok_row_count (B : Bi mg) (S : Src K mg "row_count" s_row_count ["size", "places"])  : Can P w K mg base 1 "row_count" ["size", "places"] (spD ⟨K, mg⟩ [] m_row_count) := Can.of (k := 0) S sc_row_count fun f cdv A outer s H E fx hr =>
  sss_cons (ss_asg (se_int) (sg_v 2 sc_row_count.nd)) (sss_cons (ss_for (passes_of rfl) rfl (si_range1 rfl B.b_range (sa_cons (se_v 1) (sa_nil))) (sg_v 3 sc_row_count.nd) (sss_one (ss_asg (se_op os_mul (se_v 2) (se_v 0)) (sg_v 2 sc_row_count.nd)))) (sss_one (ss_ret (se_v 2))))
abbrev s_all_rows : Stmt := top 10
theorem sc_all_rows : FnScope ["size", "places", "rows", "_", "row", "value"] ["size", "places"] (defScope s_all_rows) := ⟨rfl, rfl, rfl, by decide +kernel, rfl, by decide +kernel, by decide +kernel⟩
theorem ok_all_rows (B : Bi mg) (S : Src K mg "all_rows" s_all_rows ["size", "places"])  : Can P w K mg base 1 "all_rows" ["size", "places"] (spD ⟨K, mg⟩ [] m_all_rows) := Can.of (k := 0) S sc_all_rows fun f cdv A outer s H E fx hr =>
  sss_cons (ss_asg (se_lst (sa_cons (se_tup (sa_nil)) (sa_nil))) (sg_v 2 sc_all_rows.nd)) (sss_cons (ss_for (passes_of rfl) rfl (si_range1 rfl B.b_range (sa_cons (se_v 1) (sa_nil))) (sg_v 3 sc_all_rows.nd) (sss_one (ss_setLc2 (i := 2) (own := [("row", 4), ("value", 5)]) (vs1 := [5]) rfl sc_all_rows.nd rfl rfl (sw_true rfl rfl rfl (by decide +kernel)) (si_seq (se_v 2)) (blkOk_by (N := ["size", "places", "rows", "_", "row", "value"]) (sc := defScope s_all_rows) (by decide +kernel)) (SGb.of (fun fx s H C cl fp => sg_v 4 sc_all_rows.nd)) (STb.nil) (SIb.of (fun fx s H C cl fp => si_range1 rfl B.b_range (sa_cons (se_v 0) (sa_nil)))) (SGb.of (fun fx s H C cl fp => sg_v 5 sc_all_rows.nd)) (STb.nil) (SEb.of (fun fx s H C cl fp => se_op os_add (se_v 4) (se_tup (sa_cons (se_v 5) (sa_nil))))) (by decide) (by decide) (by decide)))) (sss_one (ss_ret (se_callTy cs_tuple rfl B.b_tuple rfl (sa_cons (se_v 2) (sa_nil))))))
abbrev s_row_number : Stmt := top 11
theorem sc_row_number : FnScope ["size", "row", "number", "value"] ["size", "row"] (defScope s_row_number) := ⟨rfl, rfl, rfl, by decide +kernel, rfl, by decide +kernel, by decide +kernel⟩
theorem ok_row_number (B : Bi mg) (S : Src K mg "row_number" s_row_number ["size", "row"])  : Can P w K mg base 1 "row_number" ["size", "row"] (spD ⟨K, mg⟩ [] m_row_number) := Can.of (k := 0) S sc_row_number fun f cdv A outer s H E fx hr =>
  sss_cons (ss_asg (se_int) (sg_v 2 sc_row_number.nd)) (sss_cons (ss_for (passes_of rfl) rfl (si_seq (se_v 1)) (sg_v 3 sc_row_number.nd) (sss_one (ss_asg (se_op os_add (se_op os_mul (se_v 2) (se_v 0)) (se_v 3)) (sg_v 2 sc_row_number.nd)))) (sss_one (ss_ret (se_v 2))))
abbrev s__law_cell : Stmt := top 13
theorem sc__law_cell : FnScope ["script", "k"] ["script", "k"] (defScope s__law_cell) := ⟨rfl, rfl, rfl, by decide +kernel, rfl, by decide +kernel, by decide +kernel⟩
theorem ok__law_cell (B : Bi mg) (S : Src K mg "_law_cell" s__law_cell ["script", "k"])  : Can P w K mg base 1 "_law_cell" ["script", "k"] (spD ⟨K, mg⟩ [] m__law_cell) := Can.of (k := 0) S sc__law_cell fun f cdv A outer s H E fx hr =>
  sss_cons (ss_if (st_cmp os_lt (se_v 1) (se_callB cs_len rfl B.b_len rfl (sa_cons (se_v 0) (sa_nil))) (nomark _)) (sss_one (ss_ret (se_callTy cs_int rfl B.b_int rfl (sa_cons (se_ix (se_v 0) (se_v 1)) (sa_nil))))) (sss_nil)) (sss_one (ss_ret (se_int)))
abbrev s__law_stream : Stmt := top 14
theorem sc__law_stream : FnScope ["cell", "rest"] ["cell"] (defScope s__law_stream) := ⟨rfl, rfl, rfl, by decide +kernel, rfl, by decide +kernel, by decide +kernel⟩
theorem ok__law_stream (B : Bi mg) (S : Src K mg "_law_stream" s__law_stream ["cell"])  : Can P w K mg base 1 "_law_stream" ["cell"] (spD ⟨K, mg⟩ [] m__law_stream) := Can.of (k := 0) S sc__law_stream fun f cdv A outer s H E fx hr =>
  sss_cons (ss_asg (se_callB cs_abs rfl B.b_abs rfl (sa_cons (se_callTy cs_int rfl B.b_int rfl (sa_cons (se_v 0) (sa_nil))) (sa_nil))) (sg_v 1 sc__law_stream.nd)) (sss_cons (ss_if (st_cmp os_lt (se_v 1) (se_op os_pow (se_int) (se_int)) (nomark _)) (sss_one (ss_asg (se_int) (sg_v 1 sc__law_stream.nd))) (sss_nil)) (sss_one (ss_ret (se_lst (sa_cons (se_v 1) (sa_cons (se_callTy cs_int rfl B.b_int rfl (sa_cons (se_v 0) (sa_nil))) (sa_cons (se_int) (sa_nil))))))))
abbrev s__law_next : Stmt := top 15
theorem sc__law_next : FnScope ["stream", "limit", "digit", "one", "two"] ["stream", "limit"] (defScope s__law_next) := ⟨rfl, rfl, rfl, by decide +kernel, rfl, by decide +kernel, by decide +kernel⟩
theorem ok__law_next (B : Bi mg) (S : Src K mg "_law_next" s__law_next ["stream", "limit"])  : Can P w K mg base 1 "_law_next" ["stream", "limit"] (spD ⟨K, mg⟩ [0] m__law_next) := Can.of (k := 0) S sc__law_next fun f cdv A outer s H E fx hr =>
  sss_cons (ss_setIx (i := 0) st_setL rfl (by first | exact Or.inl rfl | exact Or.inr (Or.inl rfl) | exact Or.inr (Or.inr rfl)) (se_int) (se_op os_add (se_ix (se_v 0) (se_int)) (se_int))) (sss_cons (ss_if (st_cmp os_gt (se_ix (se_v 0) (se_int)) (se_int) (nomark _)) (sss_cons (ss_asg (se_op os_mod (se_callTy cs_int rfl B.b_int rfl (sa_cons (se_ix (se_v 0) (se_int)) (sa_nil))) (se_v 1)) (sg_v 2 sc__law_next.nd)) (sss_cons (ss_setIx (i := 0) st_setL rfl (by first | exact Or.inl rfl | exact Or.inr (Or.inl rfl) | exact Or.inr (Or.inr rfl)) (se_int) (se_op os_div (se_callTy cs_int rfl B.b_int rfl (sa_cons (se_ix (se_v 0) (se_int)) (sa_nil))) (se_v 1))) (sss_one (ss_ret (se_v 2))))) (sss_nil)) (sss_cons (ss_asg (se_op os_mod (se_callTy cs_int rfl B.b_int rfl (sa_cons (se_op os_mul (se_callTy cs_int rfl B.b_int rfl (sa_cons (se_op os_add (se_op os_mod (se_callTy cs_int rfl B.b_int rfl (sa_cons (se_ix (se_v 0) (se_int)) (sa_nil))) (se_int)) (se_op os_mul (se_int) (se_ix (se_v 0) (se_int)))) (sa_nil))) (se_int)) (sa_nil))) (se_int)) (sg_v 3 sc__law_next.nd)) (sss_cons (ss_asg (se_op os_mod (se_callTy cs_int rfl B.b_int rfl (sa_cons (se_op os_add (se_op os_mul (se_v 3) (se_v 3)) (se_op os_mul (se_int) (se_ix (se_v 0) (se_int)))) (sa_nil))) (se_int)) (sg_v 4 sc__law_next.nd)) (sss_one (ss_ret (se_op os_mod (se_callTy cs_int rfl B.b_int rfl (sa_cons (se_v 4) (sa_nil))) (se_v 1)))))))
abbrev s__law_exact : Stmt := top 16
theorem sc__law_exact : FnScope ["actual", "expected", "k"] ["actual", "expected"] (defScope s__law_exact) := ⟨rfl, rfl, rfl, by decide +kernel, rfl, by decide +kernel, by decide +kernel⟩
theorem okr__law_exact (B : Bi mg) (S : Src K mg "_law_exact" s__law_exact ["actual", "expected"])  : ∀ n, Can P w K mg base (0 + n) "_law_exact" ["actual", "expected"] (spD ⟨K, mg⟩ [] (r__law_exact n))
  | 0 => Can.no S
  | n + 1 => by
    have CR := okr__law_exact B S  n
    have hkj : 0 + n ≤ 0 + n := Nat.le_refl _
    exact Can.of (k := 0 + n) S sc__law_exact fun f cdv A outer s H E fx hr =>
      sss_cons (ss_if (st_truth (se_isa rfl B.b_isinstance rfl rfl B.b_tuple rfl (se_v 1))) (sss_cons (ss_if (SW.st (sw_or (st_not (st_truth (se_isa rfl B.b_isinstance rfl rfl B.b_tuple rfl (se_v 0)))) (sw_or1 (st_cmp (os_ne (u64 hr)) (se_callB cs_len rfl B.b_len rfl (sa_cons (se_v 0) (sa_nil))) (se_callB cs_len rfl B.b_len rfl (sa_cons (se_v 1) (sa_nil))) (nomark _))))) (sss_one (ss_ret (se_bl))) (sss_nil)) (sss_cons (ss_for (passes_of rfl) rfl (si_range1 rfl B.b_range (sa_cons (se_callB cs_len rfl B.b_len rfl (sa_cons (se_v 1) (sa_nil))) (sa_nil))) (sg_v 2 sc__law_exact.nd) (sss_one (ss_if (st_not (st_truth (se_own CR (takes_of rfl rfl rfl rfl) hr (sa_cons (se_ix (se_v 0) (se_v 2)) (sa_cons (se_ix (se_v 1) (se_v 2)) (sa_nil))) (hkj := hkj)))) (sss_one (ss_ret (se_bl))) (sss_nil)))) (sss_one (ss_ret (se_bl))))) (sss_nil)) (sss_cons (ss_if (st_isN (se_v 1)) (sss_one (ss_ret (se_isN (se_v 0)))) (sss_nil)) (sss_cons (ss_if (st_truth (se_isa rfl B.b_isinstance rfl rfl B.b_bool rfl (se_v 1))) (sss_one (ss_ret (se_and (se_isa rfl B.b_isinstance rfl rfl B.b_bool rfl (se_v 0)) (se_one (se_cmp (os_eq (u64 hr)) (se_v 0) (se_v 1) (nomark _)))))) (sss_nil)) (sss_cons (ss_if (st_truth (se_isa rfl B.b_isinstance rfl rfl B.b_int rfl (se_v 1))) (sss_one (ss_ret (se_and (se_isa rfl B.b_isinstance rfl rfl B.b_int rfl (se_v 0)) (se_and (se_not (se_isa rfl B.b_isinstance rfl rfl B.b_bool rfl (se_v 0))) (se_one (se_cmp (os_eq (u64 hr)) (se_v 0) (se_v 1) (nomark _))))))) (sss_nil)) (sss_one (ss_ret (se_and (se_isa rfl B.b_isinstance rfl rfl B.b_str rfl (se_v 0)) (se_one (se_cmp (os_eq (u64 hr)) (se_v 0) (se_v 1) (nomark _)))))))))
theorem ok__law_exact (B : Bi mg) (S : Src K mg "_law_exact" s__law_exact ["actual", "expected"])  : Can P w K mg base 8 "_law_exact" ["actual", "expected"] (spD ⟨K, mg⟩ [] m__law_exact) := okr__law_exact B S  8
abbrev s__law_rows : Stmt := top 17
theorem sc__law_rows : FnScope ["size", "places", "rows", "k", "longer", "row", "value"] ["size", "places"] (defScope s__law_rows) := ⟨rfl, rfl, rfl, by decide +kernel, rfl, by decide +kernel, by decide +kernel⟩
theorem ok__law_rows (B : Bi mg) (S : Src K mg "_law_rows" s__law_rows ["size", "places"])  : Can P w K mg base 1 "_law_rows" ["size", "places"] (spD ⟨K, mg⟩ [] m__law_rows) := Can.of (k := 0) S sc__law_rows fun f cdv A outer s H E fx hr =>
  sss_cons (ss_asg (se_lst (sa_cons (se_tup (sa_nil)) (sa_nil))) (sg_v 2 sc__law_rows.nd)) (sss_cons (ss_for (passes_of rfl) rfl (si_range1 rfl B.b_range (sa_cons (se_v 1) (sa_nil))) (sg_v 3 sc__law_rows.nd) (sss_cons (ss_asg (se_lst (sa_nil)) (sg_v 4 sc__law_rows.nd)) (sss_cons (ss_for (passes_of rfl) rfl (si_seq (se_callTy cs_list rfl B.b_list rfl (sa_cons (se_v 2) (sa_nil)))) (sg_v 5 sc__law_rows.nd) (sss_one (ss_for (passes_of rfl) rfl (si_range1 rfl B.b_range (sa_cons (se_v 0) (sa_nil))) (sg_v 6 sc__law_rows.nd) (sss_one (ss_expr (se_mut (i := 4) PySem.F.plainAttrs_list PySem.F.slot_list_append PySem.F.type_list_append ms_append rfl (by first | exact Or.inl rfl | exact Or.inr (Or.inl rfl) | exact Or.inr (Or.inr rfl)) (sa_cons (se_op os_add (se_v 5) (se_tup (sa_cons (se_v 6) (sa_nil)))) (sa_nil)))))))) (sss_one (ss_asg (se_v 4) (sg_v 2 sc__law_rows.nd)))))) (sss_one (ss_ret (se_v 2))))
abbrev s__law_sign : Stmt := top 18
theorem sc__law_sign : FnScope ["stream", "size", "least", "sign", "value"] ["stream", "size", "least"] (defScope s__law_sign) := ⟨rfl, rfl, rfl, by decide +kernel, rfl, by decide +kernel, by decide +kernel⟩
theorem ok__law_sign (B : Bi mg) (S : Src K mg "_law_sign" s__law_sign ["stream", "size", "least"]) (C__law_next : Can P w K mg base 1 "_law_next" ["stream", "limit"] (spD ⟨K, mg⟩ [0] m__law_next)) : Can P w K mg base 2 "_law_sign" ["stream", "size", "least"] (spD ⟨K, mg⟩ [0] m__law_sign) := Can.of (k := 1) S sc__law_sign fun f cdv A outer s H E fx hr =>
  sss_cons (ss_asg (se_tup (sa_nil)) (sg_v 3 sc__law_sign.nd)) (sss_cons (ss_for (passes_of rfl) rfl (si_range1 rfl B.b_range (sa_cons (se_v 1) (sa_nil))) (sg_v 4 sc__law_sign.nd) (sss_one (ss_if (st_cmp (os_eq (u64 hr)) (se_own C__law_next (takes_of rfl rfl rfl rfl) hr (sa_cons (se_v 0) (sa_cons (se_int) (sa_nil)))) (se_int) (nomark _)) (sss_one (ss_asg (se_op os_add (se_v 3) (se_tup (sa_cons (se_v 4) (sa_nil)))) (sg_v 3 sc__law_sign.nd))) (sss_nil)))) (sss_cons (ss_if (st_cmp os_lt (se_callB cs_len rfl B.b_len rfl (sa_cons (se_v 3) (sa_nil))) (se_v 2) (nomark _)) (sss_one (ss_asg (se_tup (sa_cons (se_own C__law_next (takes_of rfl rfl rfl rfl) hr (sa_cons (se_v 0) (sa_cons (se_v 1) (sa_nil)))) (sa_nil))) (sg_v 3 sc__law_sign.nd))) (sss_nil)) (sss_one (ss_ret (se_v 3)))))
abbrev s__law_is_sign : Stmt := top 19
theorem sc__law_is_sign : FnScope ["size", "datum", "least", "value"] ["size", "datum"] (defScope s__law_is_sign) := ⟨rfl, rfl, rfl, by decide +kernel, rfl, by decide +kernel, by decide +kernel⟩
theorem ok__law_is_sign (B : Bi mg) (S : Src K mg "_law_is_sign" s__law_is_sign ["size", "datum"])  : Can P w K mg base 1 "_law_is_sign" ["size", "datum"] (spD ⟨K, mg⟩ [] m__law_is_sign) := Can.of (k := 0) S sc__law_is_sign fun f cdv A outer s H E fx hr =>
  sss_cons (ss_if (st_not (st_truth (se_isa rfl B.b_isinstance rfl rfl B.b_tuple rfl (se_v 1)))) (sss_one (ss_ret (se_bl))) (sss_nil)) (sss_cons (ss_asg (se_int) (sg_v 2 sc__law_is_sign.nd)) (sss_cons (ss_for (passes_of rfl) rfl (si_seq (se_v 1)) (sg_v 3 sc__law_is_sign.nd) (sss_cons (ss_if (SW.st (sw_or (st_not (st_truth (se_isa rfl B.b_isinstance rfl rfl B.b_int rfl (se_v 3)))) (sw_or (st_truth (se_isa rfl B.b_isinstance rfl rfl B.b_bool rfl (se_v 3))) (sw_or1 (st_not (st_chain os_le os_lt (se_v 2) (se_v 3) (se_v 0))))))) (sss_one (ss_ret (se_bl))) (sss_nil)) (sss_one (ss_asg (se_op os_add (se_v 3) (se_int)) (sg_v 2 sc__law_is_sign.nd))))) (sss_one (ss_ret (se_bl)))))
abbrev s__law_is_value : Stmt := top 20
theorem sc__law_is_value : FnScope ["size", "datum"] ["size", "datum"] (defScope s__law_is_value) := ⟨rfl, rfl, rfl, by decide +kernel, rfl, by decide +kernel, by decide +kernel⟩
theorem ok__law_is_value (B : Bi mg) (S : Src K mg "_law_is_value" s__law_is_value ["size", "datum"])  : Can P w K mg base 1 "_law_is_value" ["size", "datum"] (spD ⟨K, mg⟩ [] m__law_is_value) := Can.of (k := 0) S sc__law_is_value fun f cdv A outer s H E fx hr =>
  sss_one (ss_ret (se_and (se_isa rfl B.b_isinstance rfl rfl B.b_int rfl (se_v 1)) (se_and (se_not (se_isa rfl B.b_isinstance rfl rfl B.b_bool rfl (se_v 1))) (se_one (se_chain os_le os_lt (se_int) (se_v 1) (se_v 0))))))
abbrev s__law_item : Stmt := top 21
theorem sc__law_item : FnScope ["stream", "size", "items"] ["stream", "size"] (defScope s__law_item) := ⟨rfl, rfl, rfl, by decide +kernel, rfl, by decide +kernel, by decide +kernel⟩
theorem ok__law_item (B : Bi mg) (S : Src K mg "_law_item" s__law_item ["stream", "size"]) (C__law_next : Can P w K mg base 1 "_law_next" ["stream", "limit"] (spD ⟨K, mg⟩ [0] m__law_next)) : Can P w K mg base 2 "_law_item" ["stream", "size"] (spD ⟨K, mg⟩ [0] m__law_item) := Can.of (k := 1) S sc__law_item fun f cdv A outer s H E fx hr =>
  sss_cons (ss_asg (se_lst (sa_cons (se_int) (sa_cons (se_int) (sa_cons (se_op os_sub (se_v 1) (se_int)) (sa_cons (se_v 1) (sa_cons (se_un os_neg (se_int)) (sa_cons (se_bl) (sa_cons (se_bl) (sa_cons (se_non) (sa_cons (se_str) (sa_cons (se_str) (sa_cons (se_tup (sa_nil)) (sa_cons (se_tup (sa_cons (se_int) (sa_nil))) (sa_cons (se_op os_pow (se_int) (se_int)) (sa_cons (se_op os_add (se_v 1) (se_int)) (sa_cons (se_un os_neg (se_int)) (sa_cons (se_tup (sa_cons (se_tup (sa_cons (se_int) (sa_nil))) (sa_nil))) (sa_nil)))))))))))))))))) (sg_v 2 sc__law_item.nd)) (sss_one (ss_ret (se_ix (se_v 2) (se_own C__law_next (takes_of rfl rfl rfl rfl) hr (sa_cons (se_v 0) (sa_cons (se_callB cs_len rfl B.b_len rfl (sa_cons (se_v 2) (sa_nil))) (sa_nil)))))))
abbrev s__law_near : Stmt := top 22
theorem sc__law_near : FnScope ["stream", "size", "way", "sign", "at", "item", "k", "value"] ["stream", "size", "way"] (defScope s__law_near) := ⟨rfl, rfl, rfl, by decide +kernel, rfl, by decide +kernel, by decide +kernel⟩
theorem ok__law_near (B : Bi mg) (S : Src K mg "_law_near" s__law_near ["stream", "size", "way"]) (C__law_sign : Can P w K mg base 2 "_law_sign" ["stream", "size", "least"] (spD ⟨K, mg⟩ [0] m__law_sign)) (C__law_next : Can P w K mg base 1 "_law_next" ["stream", "limit"] (spD ⟨K, mg⟩ [0] m__law_next)) (C__law_item : Can P w K mg base 2 "_law_item" ["stream", "size"] (spD ⟨K, mg⟩ [0] m__law_item)) : Can P w K mg base 3 "_law_near" ["stream", "size", "way"] (spD ⟨K, mg⟩ [0] m__law_near) := Can.of (k := 2) S sc__law_near fun f cdv A outer s H E fx hr =>
  sss_cons (ss_asg (se_own C__law_sign (takes_of rfl rfl rfl rfl) hr (sa_cons (se_v 0) (sa_cons (se_v 1) (sa_cons (se_int) (sa_nil))))) (sg_v 3 sc__law_near.nd)) (sss_cons (ss_asg (se_own C__law_next (takes_of rfl rfl rfl rfl) hr (sa_cons (se_v 0) (sa_cons (se_op os_add (se_callB cs_len rfl B.b_len rfl (sa_cons (se_v 3) (sa_nil))) (se_int)) (sa_nil)))) (sg_v 4 sc__law_near.nd)) (sss_cons (ss_asg (se_own C__law_item (takes_of rfl rfl rfl rfl) hr (sa_cons (se_v 0) (sa_cons (se_v 1) (sa_nil)))) (sg_v 5 sc__law_near.nd)) (sss_cons (ss_if (st_cmp (os_eq (u64 hr)) (se_v 2) (se_int) (nomark _)) (sss_one (ss_ret (se_v 3))) (sss_nil)) (sss_cons (ss_if (st_cmp (os_eq (u64 hr)) (se_v 2) (se_int) (nomark _)) (sss_one (ss_ret (se_op os_add (se_op os_add (se_slice (se_v 3) (so_none) (so_some (se_v 4))) (se_tup (sa_cons (se_v 5) (sa_nil)))) (se_slice (se_v 3) (so_some (se_v 4)) (so_none))))) (sss_nil)) (sss_cons (ss_if (st_cmp (os_eq (u64 hr)) (se_v 2) (se_int) (nomark _)) (sss_one (ss_ret (se_op os_add (se_op os_add (se_slice (se_v 3) (so_none) (so_some (se_v 4))) (se_tup (sa_cons (se_v 5) (sa_nil)))) (se_slice (se_v 3) (so_some (se_op os_add (se_v 4) (se_int))) (so_none))))) (sss_nil)) (sss_cons (ss_if (st_cmp (os_eq (u64 hr)) (se_v 2) (se_int) (nomark _)) (sss_one (ss_ret (se_op os_add (se_slice (se_v 3) (so_none) (so_some (se_op os_add (se_v 4) (se_int)))) (se_slice (se_v 3) (so_some (se_v 4)) (so_none))))) (sss_nil)) (sss_cons (ss_if (st_cmp (os_eq (u64 hr)) (se_v 2) (se_int) (nomark _)) (sss_one (ss_ret (se_op os_add (se_slice (se_v 3) (so_some (se_v 4)) (so_none)) (se_slice (se_v 3) (so_none) (so_some (se_v 4)))))) (sss_nil)) (sss_cons (ss_if (st_cmp (os_eq (u64 hr)) (se_v 2) (se_int) (nomark _)) (sss_one (ss_ret (se_callTy cs_tuple rfl B.b_tuple rfl (sa_cons (se_lc (own := [("k", 6)]) rfl sc__law_near.nd (si_range1 rfl B.b_range (sa_cons (se_callB cs_len rfl B.b_len rfl (sa_cons (se_v 3) (sa_nil))) (sa_nil))) (blkOk_by (N := ["stream", "size", "way", "sign", "at", "item", "k", "value"]) (sc := defScope s__law_near) (by decide +kernel)) (SGb.of (fun fx s H C cl fp => sg_v 6 sc__law_near.nd)) (STb.nil) (SEb.of (fun fx s H C cl fp => se_ix (se_v 3) (se_op os_sub (se_op os_sub (se_callB cs_len rfl B.b_len rfl (sa_cons (se_v 3) (sa_nil))) (se_int)) (se_v 6)))) (by decide)) (sa_nil))))) (sss_nil)) (sss_cons (ss_if (st_cmp (os_eq (u64 hr)) (se_v 2) (se_int) (nomark _)) (sss_one (ss_ret (se_callTy cs_tuple rfl B.b_tuple rfl (sa_cons (se_lc (own := [("value", 7)]) rfl sc__law_near.nd (si_seq (se_v 3)) (blkOk_by (N := ["stream", "size", "way", "sign", "at", "item", "k", "value"]) (sc := defScope s__law_near) (by decide +kernel)) (SGb.of (fun fx s H C cl fp => sg_v 7 sc__law_near.nd)) (STb.nil) (SEb.of (fun fx s H C cl fp => se_ix (se_lst (sa_cons (se_bl) (sa_cons (se_bl) (sa_cons (se_int) (sa_cons (se_int) (sa_nil)))))) (se_v 7))) (by decide)) (sa_nil))))) (sss_nil)) (sss_cons (ss_if (st_cmp (os_eq (u64 hr)) (se_v 2) (se_int) (nomark _)) (sss_one (ss_ret (se_tup (sa_cons (se_v 3) (sa_nil))))) (sss_nil)) (sss_one (ss_ret (se_v 5)))))))))))))
abbrev s__law_twin : Stmt := top 23
theorem sc__law_twin : FnScope ["datum", "told", "item"] ["datum"] (defScope s__law_twin) := ⟨rfl, rfl, rfl, by decide +kernel, rfl, by decide +kernel, by decide +kernel⟩
theorem ok__law_twin (B : Bi mg) (S : Src K mg "_law_twin" s__law_twin ["datum"])  : Can P w K mg base 1 "_law_twin" ["datum"] (spD ⟨K, mg⟩ [] m__law_twin) := Can.of (k := 0) S sc__law_twin fun f cdv A outer s H E fx hr =>
  sss_cons (ss_asg (se_lst (sa_nil)) (sg_v 1 sc__law_twin.nd)) (sss_cons (ss_for (passes_of rfl) rfl (si_seq (se_v 0)) (sg_v 2 sc__law_twin.nd) (sss_one (ss_if (SW.st (sw_and (st_truth (se_isa rfl B.b_isinstance rfl rfl B.b_int rfl (se_v 2))) (sw_and (st_not (st_truth (se_isa rfl B.b_isinstance rfl rfl B.b_bool rfl (se_v 2)))) (sw_and1 (st_chain os_le os_lt (se_int) (se_v 2) (se_int)))))) (sss_one (ss_expr (se_mut (i := 1) PySem.F.plainAttrs_list PySem.F.slot_list_append PySem.F.type_list_append ms_append rfl (by first | exact Or.inl rfl | exact Or.inr (Or.inl rfl) | exact Or.inr (Or.inr rfl)) (sa_cons (se_cmp (os_eq (u64 hr)) (se_v 2) (se_int) (nomark _)) (sa_nil))))) (sss_one (ss_expr (se_mut (i := 1) PySem.F.plainAttrs_list PySem.F.slot_list_append PySem.F.type_list_append ms_append rfl (by first | exact Or.inl rfl | exact Or.inr (Or.inl rfl) | exact Or.inr (Or.inr rfl)) (sa_cons (se_v 2) (sa_nil)))))))) (sss_one (ss_ret (se_callTy cs_tuple rfl B.b_tuple rfl (sa_cons (se_v 1) (sa_nil))))))
abbrev s__law_data_right : Stmt := top 24
theorem sc__law_data_right : FnScope ["stream", "wide", "way", "datum", "data", "one", "size"] ["stream", "wide", "way"] (defScope s__law_data_right) := ⟨rfl, rfl, rfl, by decide +kernel, rfl, by decide +kernel, by decide +kernel⟩
theorem ok__law_data_right (B : Bi mg) (S : Src K mg "_law_data_right" s__law_data_right ["stream", "wide", "way"]) (C__law_near : Can P w K mg base 3 "_law_near" ["stream", "size", "way"] (spD ⟨K, mg⟩ [0] m__law_near)) (C__law_twin : Can P w K mg base 1 "_law_twin" ["datum"] (spD ⟨K, mg⟩ [] m__law_twin)) (C_is_sign : Can P w K mg base 2 "is_sign" ["size", "datum"] (spD ⟨K, mg⟩ [] m_is_sign)) (C__law_is_sign : Can P w K mg base 1 "_law_is_sign" ["size", "datum"] (spD ⟨K, mg⟩ [] m__law_is_sign)) (C__law_exact : Can P w K mg base 8 "_law_exact" ["actual", "expected"] (spD ⟨K, mg⟩ [] m__law_exact)) (C_is_value : Can P w K mg base 1 "is_value" ["size", "datum"] (spD ⟨K, mg⟩ [] m_is_value)) (C__law_is_value : Can P w K mg base 1 "_law_is_value" ["size", "datum"] (spD ⟨K, mg⟩ [] m__law_is_value)) : Can P w K mg base 9 "_law_data_right" ["stream", "wide", "way"] (spD ⟨K, mg⟩ [0] m__law_data_right) := Can.of (k := 8) S sc__law_data_right fun f cdv A outer s H E fx hr =>
  sss_cons (ss_asg (se_own C__law_near (takes_of rfl rfl rfl rfl) hr (sa_cons (se_v 0) (sa_cons (se_v 1) (sa_cons (se_v 2) (sa_nil))))) (sg_v 3 sc__law_data_right.nd)) (sss_cons (ss_asg (se_lst (sa_cons (se_v 3) (sa_nil))) (sg_v 4 sc__law_data_right.nd)) (sss_cons (ss_if (st_truth (se_isa rfl B.b_isinstance rfl rfl B.b_tuple rfl (se_v 3))) (sss_one (ss_asg (se_op os_add (se_lst (sa_cons (se_v 3) (sa_cons (se_own C__law_twin (takes_of rfl rfl rfl rfl) hr (sa_cons (se_v 3) (sa_nil))) (sa_cons (se_v 3) (sa_nil))))) (se_callTy cs_list rfl B.b_list rfl (sa_cons (se_v 3) (sa_nil)))) (sg_v 4 sc__law_data_right.nd))) (sss_nil)) (sss_cons (ss_for (passes_of rfl) rfl (si_seq (se_v 4)) (sg_v 5 sc__law_data_right.nd) (sss_one (ss_for (passes_of rfl) rfl (si_seq (se_lst (sa_cons (se_int) (sa_cons (se_int) (sa_cons (se_int) (sa_nil)))))) (sg_v 6 sc__law_data_right.nd) (sss_cons (ss_if (st_not (st_truth (se_own C__law_exact (takes_of rfl rfl rfl rfl) hr (sa_cons (se_own C_is_sign (takes_of rfl rfl rfl rfl) hr (sa_cons (se_v 6) (sa_cons (se_v 5) (sa_nil)))) (sa_cons (se_own C__law_is_sign (takes_of rfl rfl rfl rfl) hr (sa_cons (se_v 6) (sa_cons (se_v 5) (sa_nil)))) (sa_nil)))))) (sss_one (ss_ret (se_bl))) (sss_nil)) (sss_one (ss_if (st_not (st_truth (se_own C__law_exact (takes_of rfl rfl rfl rfl) hr (sa_cons (se_own C_is_value (takes_of rfl rfl rfl rfl) hr (sa_cons (se_v 6) (sa_cons (se_v 5) (sa_nil)))) (sa_cons (se_own C__law_is_value (takes_of rfl rfl rfl rfl) hr (sa_cons (se_v 6) (sa_cons (se_v 5) (sa_nil)))) (sa_nil)))))) (sss_one (ss_ret (se_bl))) (sss_nil))))))) (sss_one (ss_ret (se_bl))))))
abbrev s__law_pair_right : Stmt := top 25
theorem sc__law_pair_right : FnScope ["size", "one", "two", "union", "common", "value"] ["size", "one", "two"] (defScope s__law_pair_right) := ⟨rfl, rfl, rfl, by decide +kernel, rfl, by decide +kernel, by decide +kernel⟩
theorem ok__law_pair_right (B : Bi mg) (S : Src K mg "_law_pair_right" s__law_pair_right ["size", "one", "two"]) (C_sign_union : Can P w K mg base 1 "sign_union" ["one", "two"] (spD ⟨K, mg⟩ [] m_sign_union)) (C__law_exact : Can P w K mg base 8 "_law_exact" ["actual", "expected"] (spD ⟨K, mg⟩ [] m__law_exact)) (C_sign_common : Can P w K mg base 1 "sign_common" ["one", "two"] (spD ⟨K, mg⟩ [] m_sign_common)) (C_sign_within : Can P w K mg base 1 "sign_within" ["one", "two"] (spD ⟨K, mg⟩ [] m_sign_within)) : Can P w K mg base 9 "_law_pair_right" ["size", "one", "two"] (spD ⟨K, mg⟩ [] m__law_pair_right) := Can.of (k := 8) S sc__law_pair_right fun f cdv A outer s H E fx hr =>
  sss_cons (ss_asg (se_callTy cs_tuple rfl B.b_tuple rfl (sa_cons (se_lc (own := [("value", 5)]) rfl sc__law_pair_right.nd (si_range1 rfl B.b_range (sa_cons (se_v 0) (sa_nil))) (blkOk_by (N := ["size", "one", "two", "union", "common", "value"]) (sc := defScope s__law_pair_right) (by decide +kernel)) (SGb.of (fun fx s H C cl fp => sg_v 5 sc__law_pair_right.nd)) (STb.one (fun fx s H C cl fp => SW.st (sw_or (st_cmp (os_in (u65 hr)) (se_v 5) (se_v 1) (by with_unfolding_all rfl)) (sw_or1 (st_cmp (os_in (u65 hr)) (se_v 5) (se_v 2) (by with_unfolding_all rfl)))))) (SEb.of (fun fx s H C cl fp => se_v 5)) (by decide)) (sa_nil))) (sg_v 3 sc__law_pair_right.nd)) (sss_cons (ss_asg (se_callTy cs_tuple rfl B.b_tuple rfl (sa_cons (se_lc (own := [("value", 5)]) rfl sc__law_pair_right.nd (si_range1 rfl B.b_range (sa_cons (se_v 0) (sa_nil))) (blkOk_by (N := ["size", "one", "two", "union", "common", "value"]) (sc := defScope s__law_pair_right) (by decide +kernel)) (SGb.of (fun fx s H C cl fp => sg_v 5 sc__law_pair_right.nd)) (STb.one (fun fx s H C cl fp => SW.st (sw_and (st_cmp (os_in (u65 hr)) (se_v 5) (se_v 1) (by with_unfolding_all rfl)) (sw_and1 (st_cmp (os_in (u65 hr)) (se_v 5) (se_v 2) (by with_unfolding_all rfl)))))) (SEb.of (fun fx s H C cl fp => se_v 5)) (by decide)) (sa_nil))) (sg_v 4 sc__law_pair_right.nd)) (sss_cons (ss_if (SW.st (sw_or (st_not (st_truth (se_own C__law_exact (takes_of rfl rfl rfl rfl) hr (sa_cons (se_own C_sign_union (takes_of rfl rfl rfl rfl) hr (sa_cons (se_v 1) (sa_cons (se_v 2) (sa_nil)))) (sa_cons (se_v 3) (sa_nil)))))) (sw_or1 (st_not (st_truth (se_own C__law_exact (takes_of rfl rfl rfl rfl) hr (sa_cons (se_own C_sign_common (takes_of rfl rfl rfl rfl) hr (sa_cons (se_v 1) (sa_cons (se_v 2) (sa_nil)))) (sa_cons (se_v 4) (sa_nil))))))))) (sss_one (ss_ret (se_bl))) (sss_nil)) (sss_one (ss_ret (se_own C__law_exact (takes_of rfl rfl rfl rfl) hr (sa_cons (se_own C_sign_within (takes_of rfl rfl rfl rfl) hr (sa_cons (se_v 1) (sa_cons (se_v 2) (sa_nil)))) (sa_cons (se_cmp (os_eq (u64 hr)) (se_v 4) (se_v 1) (nomark _)) (sa_nil))))))))
abbrev s__law_signs_right : Stmt := top 26
theorem sc__law_signs_right : FnScope ["size", "signs", "value", "one", "two", "sign"] ["size"] (defScope s__law_signs_right) := ⟨rfl, rfl, rfl, by decide +kernel, rfl, by decide +kernel, by decide +kernel⟩
theorem ok__law_signs_right (B : Bi mg) (S : Src K mg "_law_signs_right" s__law_signs_right ["size"]) (C_all_signs : Can P w K mg base 1 "all_signs" ["size"] (spD ⟨K, mg⟩ [] m_all_signs)) (C__law_exact : Can P w K mg base 8 "_law_exact" ["actual", "expected"] (spD ⟨K, mg⟩ [] m__law_exact)) (C_full_sign : Can P w K mg base 1 "full_sign" ["size"] (spD ⟨K, mg⟩ [] m_full_sign)) (C_other_values : Can P w K mg base 1 "other_values" ["size", "sign"] (spD ⟨K, mg⟩ [] m_other_values)) (C__law_pair_right : Can P w K mg base 9 "_law_pair_right" ["size", "one", "two"] (spD ⟨K, mg⟩ [] m__law_pair_right)) : Can P w K mg base 10 "_law_signs_right" ["size"] (spD ⟨K, mg⟩ [] m__law_signs_right) := Can.of (k := 9) S sc__law_signs_right fun f cdv A outer s H E fx hr =>
  sss_cons (ss_asg (se_lst (sa_cons (se_tup (sa_nil)) (sa_nil))) (sg_v 1 sc__law_signs_right.nd)) (sss_cons (ss_for (passes_of rfl) rfl (si_range1 rfl B.b_range (sa_cons (se_v 0) (sa_nil))) (sg_v 2 sc__law_signs_right.nd) (sss_one (ss_asg (se_op os_add (se_v 1) (se_lc (own := [("sign", 5)]) rfl sc__law_signs_right.nd (si_seq (se_v 1)) (blkOk_by (N := ["size", "signs", "value", "one", "two", "sign"]) (sc := defScope s__law_signs_right) (by decide +kernel)) (SGb.of (fun fx s H C cl fp => sg_v 5 sc__law_signs_right.nd)) (STb.nil) (SEb.of (fun fx s H C cl fp => se_op os_add (se_v 5) (se_tup (sa_cons (se_v 2) (sa_nil))))) (by decide))) (sg_v 1 sc__law_signs_right.nd)))) (sss_cons (ss_asg (se_callB (cs_sorted (u64 hr)) rfl B.b_sorted rfl (sa_cons (se_v 1) (sa_nil))) (sg_v 1 sc__law_signs_right.nd)) (sss_cons (ss_if (SW.st (sw_or (st_not (st_truth (se_own C__law_exact (takes_of rfl rfl rfl rfl) hr (sa_cons (se_own C_all_signs (takes_of rfl rfl rfl rfl) hr (sa_cons (se_v 0) (sa_nil))) (sa_cons (se_callTy cs_tuple rfl B.b_tuple rfl (sa_cons (se_v 1) (sa_nil))) (sa_nil)))))) (sw_or1 (st_not (st_truth (se_own C__law_exact (takes_of rfl rfl rfl rfl) hr (sa_cons (se_own C_full_sign (takes_of rfl rfl rfl rfl) hr (sa_cons (se_v 0) (sa_nil))) (sa_cons (se_tupRg rfl rfl B.b_tuple rfl B.b_range (se_v 0)) (sa_nil))))))))) (sss_one (ss_ret (se_bl))) (sss_nil)) (sss_cons (ss_for (passes_of rfl) rfl (si_seq (se_v 1)) (sg_v 3 sc__law_signs_right.nd) (sss_cons (ss_if (st_not (st_truth (se_own C__law_exact (takes_of rfl rfl rfl rfl) hr (sa_cons (se_own C_other_values (takes_of rfl rfl rfl rfl) hr (sa_cons (se_v 0) (sa_cons (se_v 3) (sa_nil)))) (sa_cons (se_callTy cs_tuple rfl B.b_tuple rfl (sa_cons (se_lc (own := [("value", 2)]) rfl sc__law_signs_right.nd (si_range1 rfl B.b_range (sa_cons (se_v 0) (sa_nil))) (blkOk_by (N := ["size", "signs", "value", "one", "two", "sign"]) (sc := defScope s__law_signs_right) (by decide +kernel)) (SGb.of (fun fx s H C cl fp => sg_v 2 sc__law_signs_right.nd)) (STb.one (fun fx s H C cl fp => st_cmp (os_notIn (u65 hr)) (se_v 2) (se_v 3) (by with_unfolding_all rfl))) (SEb.of (fun fx s H C cl fp => se_v 2)) (by decide)) (sa_nil))) (sa_nil)))))) (sss_one (ss_ret (se_bl))) (sss_nil)) (sss_one (ss_for (passes_of rfl) rfl (si_seq (se_v 1)) (sg_v 4 sc__law_signs_right.nd) (sss_one (ss_if (st_not (st_truth (se_own C__law_pair_right (takes_of rfl rfl rfl rfl) hr (sa_cons (se_v 0) (sa_cons (se_v 3) (sa_cons (se_v 4) (sa_nil))))))) (sss_one (ss_ret (se_bl))) (sss_nil))))))) (sss_one (ss_ret (se_bl)))))))
abbrev s__law_rows_right : Stmt := top 27
theorem sc__law_rows_right : FnScope ["size", "places", "rows", "at"] ["size", "places"] (defScope s__law_rows_right) := ⟨rfl, rfl, rfl, by decide +kernel, rfl, by decide +kernel, by decide +kernel⟩
theorem ok__law_rows_right (B : Bi mg) (S : Src K mg "_law_rows_right" s__law_rows_right ["size", "places"]) (C__law_rows : Can P w K mg base 1 "_law_rows" ["size", "places"] (spD ⟨K, mg⟩ [] m__law_rows)) (C_all_rows : Can P w K mg base 1 "all_rows" ["size", "places"] (spD ⟨K, mg⟩ [] m_all_rows)) (C__law_exact : Can P w K mg base 8 "_law_exact" ["actual", "expected"] (spD ⟨K, mg⟩ [] m__law_exact)) (C_row_count : Can P w K mg base 1 "row_count" ["size", "places"] (spD ⟨K, mg⟩ [] m_row_count)) (C_row_number : Can P w K mg base 1 "row_number" ["size", "row"] (spD ⟨K, mg⟩ [] m_row_number)) : Can P w K mg base 9 "_law_rows_right" ["size", "places"] (spD ⟨K, mg⟩ [] m__law_rows_right) := Can.of (k := 8) S sc__law_rows_right fun f cdv A outer s H E fx hr =>
  sss_cons (ss_asg (se_own C__law_rows (takes_of rfl rfl rfl rfl) hr (sa_cons (se_v 0) (sa_cons (se_v 1) (sa_nil)))) (sg_v 2 sc__law_rows_right.nd)) (sss_cons (ss_if (SW.st (sw_or (st_not (st_truth (se_own C__law_exact (takes_of rfl rfl rfl rfl) hr (sa_cons (se_own C_all_rows (takes_of rfl rfl rfl rfl) hr (sa_cons (se_v 0) (sa_cons (se_v 1) (sa_nil)))) (sa_cons (se_callTy cs_tuple rfl B.b_tuple rfl (sa_cons (se_v 2) (sa_nil))) (sa_nil)))))) (sw_or1 (st_not (st_truth (se_own C__law_exact (takes_of rfl rfl rfl rfl) hr (sa_cons (se_own C_row_count (takes_of rfl rfl rfl rfl) hr (sa_cons (se_v 0) (sa_cons (se_v 1) (sa_nil)))) (sa_cons (se_callB cs_len rfl B.b_len rfl (sa_cons (se_v 2) (sa_nil))) (sa_nil))))))))) (sss_one (ss_ret (se_bl))) (sss_nil)) (sss_cons (ss_for (passes_of rfl) rfl (si_range1 rfl B.b_range (sa_cons (se_callB cs_len rfl B.b_len rfl (sa_cons (se_v 2) (sa_nil))) (sa_nil))) (sg_v 3 sc__law_rows_right.nd) (sss_one (ss_if (st_not (st_truth (se_own C__law_exact (takes_of rfl rfl rfl rfl) hr (sa_cons (se_own C_row_number (takes_of rfl rfl rfl rfl) hr (sa_cons (se_v 0) (sa_cons (se_ix (se_v 2) (se_v 3)) (sa_nil)))) (sa_cons (se_v 3) (sa_nil)))))) (sss_one (ss_ret (se_bl))) (sss_nil)))) (sss_one (ss_ret (se_bl)))))
abbrev s_law : Stmt := top 28
theorem sc_law : FnScope ["script", "stream", "first", "size", "shapes", "k"] ["script"] (defScope s_law) := ⟨rfl, rfl, rfl, by decide +kernel, rfl, by decide +kernel, by decide +kernel⟩
theorem ok_law {fa : Addr} {fd : FuncData} (B : Bi mg) (F : Fun K "law" "law" s_law fa fd) (C__law_cell : Can P w K mg base 1 "_law_cell" ["script", "k"] (spD ⟨K, mg⟩ [] m__law_cell)) (C__law_stream : Can P w K mg base 1 "_law_stream" ["cell"] (spD ⟨K, mg⟩ [] m__law_stream)) (C__law_next : Can P w K mg base 1 "_law_next" ["stream", "limit"] (spD ⟨K, mg⟩ [0] m__law_next)) (C__law_signs_right : Can P w K mg base 10 "_law_signs_right" ["size"] (spD ⟨K, mg⟩ [] m__law_signs_right)) (C__law_rows_right : Can P w K mg base 9 "_law_rows_right" ["size", "places"] (spD ⟨K, mg⟩ [] m__law_rows_right)) (C__law_data_right : Can P w K mg base 9 "_law_data_right" ["stream", "wide", "way"] (spD ⟨K, mg⟩ [0] m__law_data_right)) : FnOk P w K mg base (L2.CX P w) 11 fa fd ["script"] (spD ⟨K, mg⟩ [] m_law) := def_ok (k := 10) F sc_law fun cdv A outer s H E fx hr =>
  sss_cons (ss_asg (se_own C__law_stream (takes_of rfl rfl rfl rfl) hr (sa_cons (se_own C__law_cell (takes_of rfl rfl rfl rfl) hr (sa_cons (se_v 0) (sa_cons (se_int) (sa_nil)))) (sa_nil))) (sg_v 1 sc_law.nd)) (sss_cons (ss_asg (se_op os_add (se_int) (se_own C__law_next (takes_of rfl rfl rfl rfl) hr (sa_cons (se_v 1) (sa_cons (se_int) (sa_nil))))) (sg_v 2 sc_law.nd)) (sss_cons (ss_for (passes_of rfl) rfl (si_seq (se_lst (sa_cons (se_v 2) (sa_cons (se_int) (sa_cons (se_int) (sa_cons (se_int) (sa_nil))))))) (sg_v 3 sc_law.nd) (sss_cons (ss_if (st_not (st_truth (se_own C__law_signs_right (takes_of rfl rfl rfl rfl) hr (sa_cons (se_v 3) (sa_nil))))) (sss_one (ss_ret (se_bl))) (sss_nil)) (sss_one (ss_if (st_not (st_truth (se_own C__law_rows_right (takes_of rfl rfl rfl rfl) hr (sa_cons (se_v 3) (sa_cons (se_own C__law_next (takes_of rfl rfl rfl rfl) hr (sa_cons (se_v 1) (sa_cons (se_ix (se_lst (sa_cons (se_int) (sa_cons (se_int) (sa_cons (se_int) (sa_cons (se_int) (sa_cons (se_int) (sa_nil))))))) (se_v 3)) (sa_nil)))) (sa_nil)))))) (sss_one (ss_ret (se_bl))) (sss_nil))))) (sss_cons (ss_asg (se_own C__law_stream (takes_of rfl rfl rfl rfl) hr (sa_cons (se_own C__law_cell (takes_of rfl rfl rfl rfl) hr (sa_cons (se_v 0) (sa_cons (se_int) (sa_nil)))) (sa_nil))) (sg_v 4 sc_law.nd)) (sss_cons (ss_for (passes_of rfl) rfl (si_range1 rfl B.b_range (sa_cons (se_int) (sa_nil))) (sg_v 5 sc_law.nd) (sss_one (ss_if (st_not (st_truth (se_own C__law_data_right (takes_of rfl rfl rfl rfl) hr (sa_cons (se_v 4) (sa_cons (se_op os_add (se_int) (se_op os_mod (se_callTy cs_int rfl B.b_int rfl (sa_cons (se_op os_add (se_v 2) (se_v 5)) (sa_nil))) (se_int))) (sa_cons (se_op os_mod (se_callTy cs_int rfl B.b_int rfl (sa_cons (se_v 5) (sa_nil))) (se_int)) (sa_nil))))))) (sss_one (ss_ret (se_bl))) (sss_nil)))) (sss_one (ss_ret (se_bl)))))))
end
end G

namespace G
open PySem PySem.Spec PyProof.Rows L2 Av
theorem all_mk {P : Program} {w : World} {K : PySem.W.Frag} {h : Heap} {mg : Str → Option Value} {fa f0 f1 f2 f3 f4 f5 f6 f7 f8 f9 f10 f11 f12 f13 f14 f15 f16 f17 f18 f19 f20 f21 f22 f23 f24 f25 f26 : Addr} (X : K.In h) (G : h.Ns mainGlobals mg) (hfa : mg "law" = some (.ref fa))
    {od0 an0 od1 an1 od2 an2 od3 an3 od4 an4 od5 an5 od6 an6 od7 an7 od8 an8 od9 an9 od10 an10 od11 an11 od12 an12 od13 an13 od14 an14 od15 an15 od16 an16 od17 an17 od18 an18 od19 an19 od20 an20 od21 an21 od22 an22 od23 an23 od24 an24 od25 an25 od26 an26 : Option Addr} {sl0 sl1 sl2 sl3 sl4 sl5 sl6 sl7 sl8 sl9 sl10 sl11 sl12 sl13 sl14 sl15 sl16 sl17 sl18 sl19 sl20 sl21 sl22 sl23 sl24 sl25 sl26 : Array (Option Value)} {oc0 kV0 dc0 pm0 cd0 ct0 oc1 kV1 dc1 pm1 cd1 ct1 oc2 kV2 dc2 pm2 cd2 ct2 oc3 kV3 dc3 pm3 cd3 ct3 oc4 kV4 dc4 pm4 cd4 ct4 oc5 kV5 dc5 pm5 cd5 ct5 oc6 kV6 dc6 pm6 cd6 ct6 oc7 kV7 dc7 pm7 cd7 ct7 oc8 kV8 dc8 pm8 cd8 ct8 oc9 kV9 dc9 pm9 cd9 ct9 oc10 kV10 dc10 pm10 cd10 ct10 oc11 kV11 dc11 pm11 cd11 ct11 oc12 kV12 dc12 pm12 cd12 ct12 oc13 kV13 dc13 pm13 cd13 ct13 oc14 kV14 dc14 pm14 cd14 ct14 oc15 kV15 dc15 pm15 cd15 ct15 oc16 kV16 dc16 pm16 cd16 ct16 oc17 kV17 dc17 pm17 cd17 ct17 oc18 kV18 dc18 pm18 cd18 ct18 oc19 kV19 dc19 pm19 cd19 ct19 oc20 kV20 dc20 pm20 cd20 ct20 oc21 kV21 dc21 pm21 cd21 ct21 oc22 kV22 dc22 pm22 cd22 ct22 oc23 kV23 dc23 pm23 cd23 ct23 oc24 kV24 dc24 pm24 cd24 ct24 oc25 kV25 dc25 pm25 cd25 ct25 oc26 kV26 dc26 pm26 cd26 ct26 : Value}
    (a0 : PySem.W.nsIn K mainGlobals "is_value" = some (some (.ref f0))) (l0 : K.lookup f0 = some ⟨oc0, od0, .func (PySem.W.fnOf "is_value" "is_value" (defArgs s_is_value) (defBody s_is_value) (defScope s_is_value) .none kV0 dc0 pm0 an0 cd0 ct0), sl0⟩) (c0 : PySem.W.codeIn K cd0 "is_value" = true) (k0 : PySem.W.keepIn K (.ref f0) = true)
    (a1 : PySem.W.nsIn K mainGlobals "is_sign" = some (some (.ref f1))) (l1 : K.lookup f1 = some ⟨oc1, od1, .func (PySem.W.fnOf "is_sign" "is_sign" (defArgs s_is_sign) (defBody s_is_sign) (defScope s_is_sign) .none kV1 dc1 pm1 an1 cd1 ct1), sl1⟩) (c1 : PySem.W.codeIn K cd1 "is_sign" = true) (k1 : PySem.W.keepIn K (.ref f1) = true)
    (a2 : PySem.W.nsIn K mainGlobals "full_sign" = some (some (.ref f2))) (l2 : K.lookup f2 = some ⟨oc2, od2, .func (PySem.W.fnOf "full_sign" "full_sign" (defArgs s_full_sign) (defBody s_full_sign) (defScope s_full_sign) .none kV2 dc2 pm2 an2 cd2 ct2), sl2⟩) (c2 : PySem.W.codeIn K cd2 "full_sign" = true) (k2 : PySem.W.keepIn K (.ref f2) = true)
    (a3 : PySem.W.nsIn K mainGlobals "all_signs" = some (some (.ref f3))) (l3 : K.lookup f3 = some ⟨oc3, od3, .func (PySem.W.fnOf "all_signs" "all_signs" (defArgs s_all_signs) (defBody s_all_signs) (defScope s_all_signs) .none kV3 dc3 pm3 an3 cd3 ct3), sl3⟩) (c3 : PySem.W.codeIn K cd3 "all_signs" = true) (k3 : PySem.W.keepIn K (.ref f3) = true)
    (a4 : PySem.W.nsIn K mainGlobals "other_values" = some (some (.ref f4))) (l4 : K.lookup f4 = some ⟨oc4, od4, .func (PySem.W.fnOf "other_values" "other_values" (defArgs s_other_values) (defBody s_other_values) (defScope s_other_values) .none kV4 dc4 pm4 an4 cd4 ct4), sl4⟩) (c4 : PySem.W.codeIn K cd4 "other_values" = true) (k4 : PySem.W.keepIn K (.ref f4) = true)
    (a5 : PySem.W.nsIn K mainGlobals "sign_union" = some (some (.ref f5))) (l5 : K.lookup f5 = some ⟨oc5, od5, .func (PySem.W.fnOf "sign_union" "sign_union" (defArgs s_sign_union) (defBody s_sign_union) (defScope s_sign_union) .none kV5 dc5 pm5 an5 cd5 ct5), sl5⟩) (c5 : PySem.W.codeIn K cd5 "sign_union" = true) (k5 : PySem.W.keepIn K (.ref f5) = true)
    (a6 : PySem.W.nsIn K mainGlobals "sign_common" = some (some (.ref f6))) (l6 : K.lookup f6 = some ⟨oc6, od6, .func (PySem.W.fnOf "sign_common" "sign_common" (defArgs s_sign_common) (defBody s_sign_common) (defScope s_sign_common) .none kV6 dc6 pm6 an6 cd6 ct6), sl6⟩) (c6 : PySem.W.codeIn K cd6 "sign_common" = true) (k6 : PySem.W.keepIn K (.ref f6) = true)
    (a7 : PySem.W.nsIn K mainGlobals "sign_within" = some (some (.ref f7))) (l7 : K.lookup f7 = some ⟨oc7, od7, .func (PySem.W.fnOf "sign_within" "sign_within" (defArgs s_sign_within) (defBody s_sign_within) (defScope s_sign_within) .none kV7 dc7 pm7 an7 cd7 ct7), sl7⟩) (c7 : PySem.W.codeIn K cd7 "sign_within" = true) (k7 : PySem.W.keepIn K (.ref f7) = true)
    (a8 : PySem.W.nsIn K mainGlobals "row_count" = some (some (.ref f8))) (l8 : K.lookup f8 = some ⟨oc8, od8, .func (PySem.W.fnOf "row_count" "row_count" (defArgs s_row_count) (defBody s_row_count) (defScope s_row_count) .none kV8 dc8 pm8 an8 cd8 ct8), sl8⟩) (c8 : PySem.W.codeIn K cd8 "row_count" = true) (k8 : PySem.W.keepIn K (.ref f8) = true)
    (a9 : PySem.W.nsIn K mainGlobals "all_rows" = some (some (.ref f9))) (l9 : K.lookup f9 = some ⟨oc9, od9, .func (PySem.W.fnOf "all_rows" "all_rows" (defArgs s_all_rows) (defBody s_all_rows) (defScope s_all_rows) .none kV9 dc9 pm9 an9 cd9 ct9), sl9⟩) (c9 : PySem.W.codeIn K cd9 "all_rows" = true) (k9 : PySem.W.keepIn K (.ref f9) = true)
    (a10 : PySem.W.nsIn K mainGlobals "row_number" = some (some (.ref f10))) (l10 : K.lookup f10 = some ⟨oc10, od10, .func (PySem.W.fnOf "row_number" "row_number" (defArgs s_row_number) (defBody s_row_number) (defScope s_row_number) .none kV10 dc10 pm10 an10 cd10 ct10), sl10⟩) (c10 : PySem.W.codeIn K cd10 "row_number" = true) (k10 : PySem.W.keepIn K (.ref f10) = true)
    (a11 : PySem.W.nsIn K mainGlobals "_law_cell" = some (some (.ref f11))) (l11 : K.lookup f11 = some ⟨oc11, od11, .func (PySem.W.fnOf "_law_cell" "_law_cell" (defArgs s__law_cell) (defBody s__law_cell) (defScope s__law_cell) .none kV11 dc11 pm11 an11 cd11 ct11), sl11⟩) (c11 : PySem.W.codeIn K cd11 "_law_cell" = true) (k11 : PySem.W.keepIn K (.ref f11) = true)
    (a12 : PySem.W.nsIn K mainGlobals "_law_stream" = some (some (.ref f12))) (l12 : K.lookup f12 = some ⟨oc12, od12, .func (PySem.W.fnOf "_law_stream" "_law_stream" (defArgs s__law_stream) (defBody s__law_stream) (defScope s__law_stream) .none kV12 dc12 pm12 an12 cd12 ct12), sl12⟩) (c12 : PySem.W.codeIn K cd12 "_law_stream" = true) (k12 : PySem.W.keepIn K (.ref f12) = true)
    (a13 : PySem.W.nsIn K mainGlobals "_law_next" = some (some (.ref f13))) (l13 : K.lookup f13 = some ⟨oc13, od13, .func (PySem.W.fnOf "_law_next" "_law_next" (defArgs s__law_next) (defBody s__law_next) (defScope s__law_next) .none kV13 dc13 pm13 an13 cd13 ct13), sl13⟩) (c13 : PySem.W.codeIn K cd13 "_law_next" = true) (k13 : PySem.W.keepIn K (.ref f13) = true)
    (a14 : PySem.W.nsIn K mainGlobals "_law_exact" = some (some (.ref f14))) (l14 : K.lookup f14 = some ⟨oc14, od14, .func (PySem.W.fnOf "_law_exact" "_law_exact" (defArgs s__law_exact) (defBody s__law_exact) (defScope s__law_exact) .none kV14 dc14 pm14 an14 cd14 ct14), sl14⟩) (c14 : PySem.W.codeIn K cd14 "_law_exact" = true) (k14 : PySem.W.keepIn K (.ref f14) = true)
    (a15 : PySem.W.nsIn K mainGlobals "_law_rows" = some (some (.ref f15))) (l15 : K.lookup f15 = some ⟨oc15, od15, .func (PySem.W.fnOf "_law_rows" "_law_rows" (defArgs s__law_rows) (defBody s__law_rows) (defScope s__law_rows) .none kV15 dc15 pm15 an15 cd15 ct15), sl15⟩) (c15 : PySem.W.codeIn K cd15 "_law_rows" = true) (k15 : PySem.W.keepIn K (.ref f15) = true)
    (a16 : PySem.W.nsIn K mainGlobals "_law_sign" = some (some (.ref f16))) (l16 : K.lookup f16 = some ⟨oc16, od16, .func (PySem.W.fnOf "_law_sign" "_law_sign" (defArgs s__law_sign) (defBody s__law_sign) (defScope s__law_sign) .none kV16 dc16 pm16 an16 cd16 ct16), sl16⟩) (c16 : PySem.W.codeIn K cd16 "_law_sign" = true) (k16 : PySem.W.keepIn K (.ref f16) = true)
    (a17 : PySem.W.nsIn K mainGlobals "_law_is_sign" = some (some (.ref f17))) (l17 : K.lookup f17 = some ⟨oc17, od17, .func (PySem.W.fnOf "_law_is_sign" "_law_is_sign" (defArgs s__law_is_sign) (defBody s__law_is_sign) (defScope s__law_is_sign) .none kV17 dc17 pm17 an17 cd17 ct17), sl17⟩) (c17 : PySem.W.codeIn K cd17 "_law_is_sign" = true) (k17 : PySem.W.keepIn K (.ref f17) = true)
    (a18 : PySem.W.nsIn K mainGlobals "_law_is_value" = some (some (.ref f18))) (l18 : K.lookup f18 = some ⟨oc18, od18, .func (PySem.W.fnOf "_law_is_value" "_law_is_value" (defArgs s__law_is_value) (defBody s__law_is_value) (defScope s__law_is_value) .none kV18 dc18 pm18 an18 cd18 ct18), sl18⟩) (c18 : PySem.W.codeIn K cd18 "_law_is_value" = true) (k18 : PySem.W.keepIn K (.ref f18) = true)
    (a19 : PySem.W.nsIn K mainGlobals "_law_item" = some (some (.ref f19))) (l19 : K.lookup f19 = some ⟨oc19, od19, .func (PySem.W.fnOf "_law_item" "_law_item" (defArgs s__law_item) (defBody s__law_item) (defScope s__law_item) .none kV19 dc19 pm19 an19 cd19 ct19), sl19⟩) (c19 : PySem.W.codeIn K cd19 "_law_item" = true) (k19 : PySem.W.keepIn K (.ref f19) = true)
    (a20 : PySem.W.nsIn K mainGlobals "_law_near" = some (some (.ref f20))) (l20 : K.lookup f20 = some ⟨oc20, od20, .func (PySem.W.fnOf "_law_near" "_law_near" (defArgs s__law_near) (defBody s__law_near) (defScope s__law_near) .none kV20 dc20 pm20 an20 cd20 ct20), sl20⟩) (c20 : PySem.W.codeIn K cd20 "_law_near" = true) (k20 : PySem.W.keepIn K (.ref f20) = true)
    (a21 : PySem.W.nsIn K mainGlobals "_law_twin" = some (some (.ref f21))) (l21 : K.lookup f21 = some ⟨oc21, od21, .func (PySem.W.fnOf "_law_twin" "_law_twin" (defArgs s__law_twin) (defBody s__law_twin) (defScope s__law_twin) .none kV21 dc21 pm21 an21 cd21 ct21), sl21⟩) (c21 : PySem.W.codeIn K cd21 "_law_twin" = true) (k21 : PySem.W.keepIn K (.ref f21) = true)
    (a22 : PySem.W.nsIn K mainGlobals "_law_data_right" = some (some (.ref f22))) (l22 : K.lookup f22 = some ⟨oc22, od22, .func (PySem.W.fnOf "_law_data_right" "_law_data_right" (defArgs s__law_data_right) (defBody s__law_data_right) (defScope s__law_data_right) .none kV22 dc22 pm22 an22 cd22 ct22), sl22⟩) (c22 : PySem.W.codeIn K cd22 "_law_data_right" = true) (k22 : PySem.W.keepIn K (.ref f22) = true)
    (a23 : PySem.W.nsIn K mainGlobals "_law_pair_right" = some (some (.ref f23))) (l23 : K.lookup f23 = some ⟨oc23, od23, .func (PySem.W.fnOf "_law_pair_right" "_law_pair_right" (defArgs s__law_pair_right) (defBody s__law_pair_right) (defScope s__law_pair_right) .none kV23 dc23 pm23 an23 cd23 ct23), sl23⟩) (c23 : PySem.W.codeIn K cd23 "_law_pair_right" = true) (k23 : PySem.W.keepIn K (.ref f23) = true)
    (a24 : PySem.W.nsIn K mainGlobals "_law_signs_right" = some (some (.ref f24))) (l24 : K.lookup f24 = some ⟨oc24, od24, .func (PySem.W.fnOf "_law_signs_right" "_law_signs_right" (defArgs s__law_signs_right) (defBody s__law_signs_right) (defScope s__law_signs_right) .none kV24 dc24 pm24 an24 cd24 ct24), sl24⟩) (c24 : PySem.W.codeIn K cd24 "_law_signs_right" = true) (k24 : PySem.W.keepIn K (.ref f24) = true)
    (a25 : PySem.W.nsIn K mainGlobals "_law_rows_right" = some (some (.ref f25))) (l25 : K.lookup f25 = some ⟨oc25, od25, .func (PySem.W.fnOf "_law_rows_right" "_law_rows_right" (defArgs s__law_rows_right) (defBody s__law_rows_right) (defScope s__law_rows_right) .none kV25 dc25 pm25 an25 cd25 ct25), sl25⟩) (c25 : PySem.W.codeIn K cd25 "_law_rows_right" = true) (k25 : PySem.W.keepIn K (.ref f25) = true)
    (a26 : PySem.W.nsIn K mainGlobals "law" = some (some (.ref f26))) (l26 : K.lookup f26 = some ⟨oc26, od26, .func (PySem.W.fnOf "law" "law" (defArgs s_law) (defBody s_law) (defScope s_law) .none kV26 dc26 pm26 an26 cd26 ct26), sl26⟩) (c26 : PySem.W.codeIn K cd26 "law" = true) (k26 : PySem.W.keepIn K (.ref f26) = true)
    (z0 : PySem.W.nsIn K mainGlobals "abs" = some none)
    (z1 : PySem.W.nsIn K mainGlobals "bool" = some none)
    (z2 : PySem.W.nsIn K mainGlobals "int" = some none)
    (z3 : PySem.W.nsIn K mainGlobals "isinstance" = some none)
    (z4 : PySem.W.nsIn K mainGlobals "len" = some none)
    (z5 : PySem.W.nsIn K mainGlobals "list" = some none)
    (z6 : PySem.W.nsIn K mainGlobals "range" = some none)
    (z7 : PySem.W.nsIn K mainGlobals "set" = some none)
    (z8 : PySem.W.nsIn K mainGlobals "sorted" = some none)
    (z9 : PySem.W.nsIn K mainGlobals "str" = some none)
    (z10 : PySem.W.nsIn K mainGlobals "tuple" = some none)
    : ∃ fd : FuncData, (∀ (s : Shared) (v : Value), BindsTo s fd ⟨[v], []⟩ [("script", v)]) ∧ ∀ base : Heap, K.In base → base.Ns mainGlobals mg → FnOk P w K mg base (L2.CX P w) 11 fa fd ["script"] (spD ⟨K, mg⟩ [] m_law) := by
  have B : Bi mg := ⟨PySem.W.mg_none_of X G z0, PySem.W.mg_none_of X G z1, PySem.W.mg_none_of X G z2, PySem.W.mg_none_of X G z3, PySem.W.mg_none_of X G z4, PySem.W.mg_none_of X G z5, PySem.W.mg_none_of X G z6, PySem.W.mg_none_of X G z7, PySem.W.mg_none_of X G z8, PySem.W.mg_none_of X G z9, PySem.W.mg_none_of X G z10⟩
  have S0 : Src K mg "is_value" s_is_value ["size", "datum"] := by
    have F := fun_mk (st := s_is_value) l0 c0 k0
    exact ⟨_, _, F, PySem.W.mg_of X G a0, F.binds (ps := ["size", "datum"]) fun _ _ _ _ _ _ us hl => match us, hl with | [_, _], _ => rfl⟩
  have S1 : Src K mg "is_sign" s_is_sign ["size", "datum"] := by
    have F := fun_mk (st := s_is_sign) l1 c1 k1
    exact ⟨_, _, F, PySem.W.mg_of X G a1, F.binds (ps := ["size", "datum"]) fun _ _ _ _ _ _ us hl => match us, hl with | [_, _], _ => rfl⟩
  have S2 : Src K mg "full_sign" s_full_sign ["size"] := by
    have F := fun_mk (st := s_full_sign) l2 c2 k2
    exact ⟨_, _, F, PySem.W.mg_of X G a2, F.binds (ps := ["size"]) fun _ _ _ _ _ _ us hl => match us, hl with | [_], _ => rfl⟩
  have S3 : Src K mg "all_signs" s_all_signs ["size"] := by
    have F := fun_mk (st := s_all_signs) l3 c3 k3
    exact ⟨_, _, F, PySem.W.mg_of X G a3, F.binds (ps := ["size"]) fun _ _ _ _ _ _ us hl => match us, hl with | [_], _ => rfl⟩
  have S4 : Src K mg "other_values" s_other_values ["size", "sign"] := by
    have F := fun_mk (st := s_other_values) l4 c4 k4
    exact ⟨_, _, F, PySem.W.mg_of X G a4, F.binds (ps := ["size", "sign"]) fun _ _ _ _ _ _ us hl => match us, hl with | [_, _], _ => rfl⟩
  have S5 : Src K mg "sign_union" s_sign_union ["one", "two"] := by
    have F := fun_mk (st := s_sign_union) l5 c5 k5
    exact ⟨_, _, F, PySem.W.mg_of X G a5, F.binds (ps := ["one", "two"]) fun _ _ _ _ _ _ us hl => match us, hl with | [_, _], _ => rfl⟩
  have S6 : Src K mg "sign_common" s_sign_common ["one", "two"] := by
    have F := fun_mk (st := s_sign_common) l6 c6 k6
    exact ⟨_, _, F, PySem.W.mg_of X G a6, F.binds (ps := ["one", "two"]) fun _ _ _ _ _ _ us hl => match us, hl with | [_, _], _ => rfl⟩
  have S7 : Src K mg "sign_within" s_sign_within ["one", "two"] := by
    have F := fun_mk (st := s_sign_within) l7 c7 k7
    exact ⟨_, _, F, PySem.W.mg_of X G a7, F.binds (ps := ["one", "two"]) fun _ _ _ _ _ _ us hl => match us, hl with | [_, _], _ => rfl⟩
  have S8 : Src K mg "row_count" s_row_count ["size", "places"] := by
    have F := fun_mk (st := s_row_count) l8 c8 k8
    exact ⟨_, _, F, PySem.W.mg_of X G a8, F.binds (ps := ["size", "places"]) fun _ _ _ _ _ _ us hl => match us, hl with | [_, _], _ => rfl⟩
  have S9 : Src K mg "all_rows" s_all_rows ["size", "places"] := by
    have F := fun_mk (st := s_all_rows) l9 c9 k9
    exact ⟨_, _, F, PySem.W.mg_of X G a9, F.binds (ps := ["size", "places"]) fun _ _ _ _ _ _ us hl => match us, hl with | [_, _], _ => rfl⟩
  have S10 : Src K mg "row_number" s_row_number ["size", "row"] := by
    have F := fun_mk (st := s_row_number) l10 c10 k10
    exact ⟨_, _, F, PySem.W.mg_of X G a10, F.binds (ps := ["size", "row"]) fun _ _ _ _ _ _ us hl => match us, hl with | [_, _], _ => rfl⟩
  have S11 : Src K mg "_law_cell" s__law_cell ["script", "k"] := by
    have F := fun_mk (st := s__law_cell) l11 c11 k11
    exact ⟨_, _, F, PySem.W.mg_of X G a11, F.binds (ps := ["script", "k"]) fun _ _ _ _ _ _ us hl => match us, hl with | [_, _], _ => rfl⟩
  have S12 : Src K mg "_law_stream" s__law_stream ["cell"] := by
    have F := fun_mk (st := s__law_stream) l12 c12 k12
    exact ⟨_, _, F, PySem.W.mg_of X G a12, F.binds (ps := ["cell"]) fun _ _ _ _ _ _ us hl => match us, hl with | [_], _ => rfl⟩
  have S13 : Src K mg "_law_next" s__law_next ["stream", "limit"] := by
    have F := fun_mk (st := s__law_next) l13 c13 k13
    exact ⟨_, _, F, PySem.W.mg_of X G a13, F.binds (ps := ["stream", "limit"]) fun _ _ _ _ _ _ us hl => match us, hl with | [_, _], _ => rfl⟩
  have S14 : Src K mg "_law_exact" s__law_exact ["actual", "expected"] := by
    have F := fun_mk (st := s__law_exact) l14 c14 k14
    exact ⟨_, _, F, PySem.W.mg_of X G a14, F.binds (ps := ["actual", "expected"]) fun _ _ _ _ _ _ us hl => match us, hl with | [_, _], _ => rfl⟩
  have S15 : Src K mg "_law_rows" s__law_rows ["size", "places"] := by
    have F := fun_mk (st := s__law_rows) l15 c15 k15
    exact ⟨_, _, F, PySem.W.mg_of X G a15, F.binds (ps := ["size", "places"]) fun _ _ _ _ _ _ us hl => match us, hl with | [_, _], _ => rfl⟩
  have S16 : Src K mg "_law_sign" s__law_sign ["stream", "size", "least"] := by
    have F := fun_mk (st := s__law_sign) l16 c16 k16
    exact ⟨_, _, F, PySem.W.mg_of X G a16, F.binds (ps := ["stream", "size", "least"]) fun _ _ _ _ _ _ us hl => match us, hl with | [_, _, _], _ => rfl⟩
  have S17 : Src K mg "_law_is_sign" s__law_is_sign ["size", "datum"] := by
    have F := fun_mk (st := s__law_is_sign) l17 c17 k17
    exact ⟨_, _, F, PySem.W.mg_of X G a17, F.binds (ps := ["size", "datum"]) fun _ _ _ _ _ _ us hl => match us, hl with | [_, _], _ => rfl⟩
  have S18 : Src K mg "_law_is_value" s__law_is_value ["size", "datum"] := by
    have F := fun_mk (st := s__law_is_value) l18 c18 k18
    exact ⟨_, _, F, PySem.W.mg_of X G a18, F.binds (ps := ["size", "datum"]) fun _ _ _ _ _ _ us hl => match us, hl with | [_, _], _ => rfl⟩
  have S19 : Src K mg "_law_item" s__law_item ["stream", "size"] := by
    have F := fun_mk (st := s__law_item) l19 c19 k19
    exact ⟨_, _, F, PySem.W.mg_of X G a19, F.binds (ps := ["stream", "size"]) fun _ _ _ _ _ _ us hl => match us, hl with | [_, _], _ => rfl⟩
  have S20 : Src K mg "_law_near" s__law_near ["stream", "size", "way"] := by
    have F := fun_mk (st := s__law_near) l20 c20 k20
    exact ⟨_, _, F, PySem.W.mg_of X G a20, F.binds (ps := ["stream", "size", "way"]) fun _ _ _ _ _ _ us hl => match us, hl with | [_, _, _], _ => rfl⟩
  have S21 : Src K mg "_law_twin" s__law_twin ["datum"] := by
    have F := fun_mk (st := s__law_twin) l21 c21 k21
    exact ⟨_, _, F, PySem.W.mg_of X G a21, F.binds (ps := ["datum"]) fun _ _ _ _ _ _ us hl => match us, hl with | [_], _ => rfl⟩
  have S22 : Src K mg "_law_data_right" s__law_data_right ["stream", "wide", "way"] := by
    have F := fun_mk (st := s__law_data_right) l22 c22 k22
    exact ⟨_, _, F, PySem.W.mg_of X G a22, F.binds (ps := ["stream", "wide", "way"]) fun _ _ _ _ _ _ us hl => match us, hl with | [_, _, _], _ => rfl⟩
  have S23 : Src K mg "_law_pair_right" s__law_pair_right ["size", "one", "two"] := by
    have F := fun_mk (st := s__law_pair_right) l23 c23 k23
    exact ⟨_, _, F, PySem.W.mg_of X G a23, F.binds (ps := ["size", "one", "two"]) fun _ _ _ _ _ _ us hl => match us, hl with | [_, _, _], _ => rfl⟩
  have S24 : Src K mg "_law_signs_right" s__law_signs_right ["size"] := by
    have F := fun_mk (st := s__law_signs_right) l24 c24 k24
    exact ⟨_, _, F, PySem.W.mg_of X G a24, F.binds (ps := ["size"]) fun _ _ _ _ _ _ us hl => match us, hl with | [_], _ => rfl⟩
  have S25 : Src K mg "_law_rows_right" s__law_rows_right ["size", "places"] := by
    have F := fun_mk (st := s__law_rows_right) l25 c25 k25
    exact ⟨_, _, F, PySem.W.mg_of X G a25, F.binds (ps := ["size", "places"]) fun _ _ _ _ _ _ us hl => match us, hl with | [_, _], _ => rfl⟩
  have e := hfa.symm.trans (PySem.W.mg_of X G a26)
  cases e
  refine ⟨PySem.W.fnOf "law" "law" (defArgs s_law) (defBody s_law) (defScope s_law) .none kV26 dc26 pm26 an26 cd26 ct26, fun s v => .of_eq rfl, fun base _ _ => ?_⟩
  have C0 := ok_is_value (P := P) (w := w) (base := base) B S0 
  have C1 := ok_is_sign (P := P) (w := w) (base := base) B S1 C0
  have C2 := ok_full_sign (P := P) (w := w) (base := base) B S2 
  have C3 := ok_all_signs (P := P) (w := w) (base := base) B S3 
  have C4 := ok_other_values (P := P) (w := w) (base := base) B S4 
  have C5 := ok_sign_union (P := P) (w := w) (base := base) B S5 
  have C6 := ok_sign_common (P := P) (w := w) (base := base) B S6 
  have C7 := ok_sign_within (P := P) (w := w) (base := base) B S7 
  have C8 := ok_row_count (P := P) (w := w) (base := base) B S8 
  have C9 := ok_all_rows (P := P) (w := w) (base := base) B S9 
  have C10 := ok_row_number (P := P) (w := w) (base := base) B S10 
  have C11 := ok__law_cell (P := P) (w := w) (base := base) B S11 
  have C12 := ok__law_stream (P := P) (w := w) (base := base) B S12 
  have C13 := ok__law_next (P := P) (w := w) (base := base) B S13 
  have C14 := ok__law_exact (P := P) (w := w) (base := base) B S14 
  have C15 := ok__law_rows (P := P) (w := w) (base := base) B S15 
  have C16 := ok__law_sign (P := P) (w := w) (base := base) B S16 C13
  have C17 := ok__law_is_sign (P := P) (w := w) (base := base) B S17 
  have C18 := ok__law_is_value (P := P) (w := w) (base := base) B S18 
  have C19 := ok__law_item (P := P) (w := w) (base := base) B S19 C13
  have C20 := ok__law_near (P := P) (w := w) (base := base) B S20 C16 C13 C19
  have C21 := ok__law_twin (P := P) (w := w) (base := base) B S21 
  have C22 := ok__law_data_right (P := P) (w := w) (base := base) B S22 C20 C21 C1 C17 C14 C0 C18
  have C23 := ok__law_pair_right (P := P) (w := w) (base := base) B S23 C5 C14 C6 C7
  have C24 := ok__law_signs_right (P := P) (w := w) (base := base) B S24 C3 C14 C2 C4 C23
  have C25 := ok__law_rows_right (P := P) (w := w) (base := base) B S25 C15 C9 C14 C8 C10
  exact ok_law B (fun_mk (st := s_law) l26 c26 k26) C11 C12 C13 C24 C25 C22
end G
open PySem PySem.W PyProof.Rows
set_option maxHeartbeats 0 in
theorem PySem.Challenge.cw_anytruths_k00_signs_and_rows_holds : PySem.Challenge.rw_anytruths_k00_signs_and_rows.Holds := by
  w_on; o_law; k_head; (case hw => w_witness2)
  k_fill
  refine L2.walk_of (l := PySem.Challenge.rw_anytruths_k00_signs_and_rows) (n := 63) (k := 11) (x := "script") (CX := fun w => L2.CX PySem.Challenge.pw_anytruths_k00_signs_and_rows w) (sp := fun w => Av.spLaw _) rfl (by decide) rfl ⟨rfl, by decide, by decide⟩ (fun w h Y => PySem.W.kIn_of Y) ?F (fun _ _ a ns hl _ hS => ⟨a, ns, rfl, hS, hl, fun _ => rfl⟩) (fun _ H s e s' h => Av.law_CX H s e s' h)
  case F =>
    intro w mg fa h KX KG hmg
    refine' Av.law_imp (fun ns hl => G.law_holds ns hl) (G.all_mk KX KG hmg ?a0 ?l0 ?c0 ?k0 ?a1 ?l1 ?c1 ?k1 ?a2 ?l2 ?c2 ?k2 ?a3 ?l3 ?c3 ?k3 ?a4 ?l4 ?c4 ?k4 ?a5 ?l5 ?c5 ?k5 ?a6 ?l6 ?c6 ?k6 ?a7 ?l7 ?c7 ?k7 ?a8 ?l8 ?c8 ?k8 ?a9 ?l9 ?c9 ?k9 ?a10 ?l10 ?c10 ?k10 ?a11 ?l11 ?c11 ?k11 ?a12 ?l12 ?c12 ?k12 ?a13 ?l13 ?c13 ?k13 ?a14 ?l14 ?c14 ?k14 ?a15 ?l15 ?c15 ?k15 ?a16 ?l16 ?c16 ?k16 ?a17 ?l17 ?c17 ?k17 ?a18 ?l18 ?c18 ?k18 ?a19 ?l19 ?c19 ?k19 ?a20 ?l20 ?c20 ?k20 ?a21 ?l21 ?c21 ?k21 ?a22 ?l22 ?c22 ?k22 ?a23 ?l23 ?c23 ?k23 ?a24 ?l24 ?c24 ?k24 ?a25 ?l25 ?c25 ?k25 ?a26 ?l26 ?c26 ?k26 ?z0 ?z1 ?z2 ?z3 ?z4 ?z5 ?z6 ?z7 ?z8 ?z9 ?z10)
    (case a0 => k_is); (case l0 => k_is); (case c0 => k_is); (case k0 => k_is); (case a1 => k_is); (case l1 => k_is); (case c1 => k_is); (case k1 => k_is); (case a2 => k_is); (case l2 => k_is); (case c2 => k_is); (case k2 => k_is); (case a3 => k_is); (case l3 => k_is); (case c3 => k_is); (case k3 => k_is); (case a4 => k_is); (case l4 => k_is); (case c4 => k_is); (case k4 => k_is); (case a5 => k_is); (case l5 => k_is); (case c5 => k_is); (case k5 => k_is); (case a6 => k_is); (case l6 => k_is); (case c6 => k_is); (case k6 => k_is); (case a7 => k_is); (case l7 => k_is); (case c7 => k_is); (case k7 => k_is); (case a8 => k_is); (case l8 => k_is); (case c8 => k_is); (case k8 => k_is); (case a9 => k_is); (case l9 => k_is); (case c9 => k_is); (case k9 => k_is); (case a10 => k_is); (case l10 => k_is); (case c10 => k_is); (case k10 => k_is); (case a11 => k_is); (case l11 => k_is); (case c11 => k_is); (case k11 => k_is); (case a12 => k_is); (case l12 => k_is); (case c12 => k_is); (case k12 => k_is); (case a13 => k_is); (case l13 => k_is); (case c13 => k_is); (case k13 => k_is); (case a14 => k_is); (case l14 => k_is); (case c14 => k_is); (case k14 => k_is); (case a15 => k_is); (case l15 => k_is); (case c15 => k_is); (case k15 => k_is); (case a16 => k_is); (case l16 => k_is); (case c16 => k_is); (case k16 => k_is); (case a17 => k_is); (case l17 => k_is); (case c17 => k_is); (case k17 => k_is); (case a18 => k_is); (case l18 => k_is); (case c18 => k_is); (case k18 => k_is); (case a19 => k_is); (case l19 => k_is); (case c19 => k_is); (case k19 => k_is); (case a20 => k_is); (case l20 => k_is); (case c20 => k_is); (case k20 => k_is); (case a21 => k_is); (case l21 => k_is); (case c21 => k_is); (case k21 => k_is); (case a22 => k_is); (case l22 => k_is); (case c22 => k_is); (case k22 => k_is); (case a23 => k_is); (case l23 => k_is); (case c23 => k_is); (case k23 => k_is); (case a24 => k_is); (case l24 => k_is); (case c24 => k_is); (case k24 => k_is); (case a25 => k_is); (case l25 => k_is); (case c25 => k_is); (case k25 => k_is); (case a26 => k_is); (case l26 => k_is); (case c26 => k_is); (case k26 => k_is); (case z0 => k_is); (case z1 => k_is); (case z2 => k_is); (case z3 => k_is); (case z4 => k_is); (case z5 => k_is); (case z6 => k_is); (case z7 => k_is); (case z8 => k_is); (case z9 => k_is); (case z10 => k_is)
