import PyProof.Rows.All
import Wide.All
import OpenK.AllK
import Wide.FinOn
import HandS.ForMost
import HandS.ForExc
import HandS.IsInst
import HandS.Conv
import HandS.TupAny
import HandS.Deep
import HandS.Wide
import HandS.CallSlots
import HandS.ExcCtx
import HandS.HotCalls
import HandS.ExcOwn
import KE.KExcSuper
import HandS.SetFor
import HandS.Strs
import KE.SortKeyHeap
import HandS.Property
import HandS.ClsMeth
import HandS.More
import HandS.OwnIter
import HandS.Text
import HandS.Rev
import HandS.Zip
import HandS.ExcField
import HandS.TryOnly
import HandS.Small
import HandS.IterVal
import HandS.TupMul
import HandS.SetKeys
import PySem.Challenge.RW_anytruths_k02_connectives_and_kinds
set_option Elab.async false
set_option linter.all false
set_option maxRecDepth 1000000
set_option maxHeartbeats 8000000
/-! values without a heap: data D, what stands for them (Rep), a frame's slots (SV), the state relation (SR) -/
namespace Av
open PySem L2

inductive D where
  | non | bl (b : Bool) | int (i : Int) | str (x : Str)
  | tup (xs : List D) | lst (xs : List D)
  | dic (t : Bool) (kvs : List (D × D))
  | obj (c : Str) (fs : List (Str × D))
  | fn (x : Str)
deriving Inhabited

def keyD : Key → D
  | .inl i => .int i
  | .inr x => .str x

/-- the world of a claim: the written part, the module's names -/
structure Wd where
  K : PySem.W.Frag
  mg : Str → Option Value

inductive Rep (W : Wd) (H : Hp) : D → V → Prop
  | non : Rep W H .non .non
  | bl (b : Bool) : Rep W H (.bl b) (.bl b)
  | int (i : Int) : Rep W H (.int i) (.int i)
  | str (x : Str) : Rep W H (.str x) (.str x)
  | tup {a : Addr} {ds : List D} {vs : List V} (h : H a = some (.tup vs)) (n : ds.length = vs.length) (r : ∀ (i : Nat) d v, ds[i]? = some d → vs[i]? = some v → Rep W H d v) : Rep W H (.tup ds) (.ref a)
  | lst {a : Addr} {ds : List D} {vs : List V} (h : SqL W.K H a vs) (n : ds.length = vs.length) (r : ∀ (i : Nat) d v, ds[i]? = some d → vs[i]? = some v → Rep W H d v) : Rep W H (.lst ds) (.ref a)
  | dic {a : Addr} {ds : List (D × D)} {kvs : List (Key × V)} (h : H a = some (.dK kvs)) (n : ds.length = kvs.length) (k : ∀ (i : Nat) d v, ds[i]? = some d → kvs[i]? = some v → d.1 = keyD v.1)
      (r : ∀ (i : Nat) d v, ds[i]? = some d → kvs[i]? = some v → Rep W H d.2 v.2) : Rep W H (.dic false ds) (.ref a)
  | dicT {a : Addr} {ds : List (D × D)} {kvs : List (List Key × V)} (h : H a = some (.dT kvs)) (n : ds.length = kvs.length) (k : ∀ (i : Nat) d v, ds[i]? = some d → kvs[i]? = some v → d.1 = .tup (v.1.map keyD))
      (r : ∀ (i : Nat) d v, ds[i]? = some d → kvs[i]? = some v → Rep W H d.2 v.2) : Rep W H (.dic true ds) (.ref a)
  | obj {a C dx : Addr} {c : Str} {ds : List (Str × D)} {fs : List (Str × V)} (h : H a = some (.ins C dx fs)) (g : W.mg c = some (.ref C)) (n : ds.length = fs.length) (k : ∀ (i : Nat) d v, ds[i]? = some d → fs[i]? = some v → d.1 = v.1)
      (r : ∀ (i : Nat) d v, ds[i]? = some d → fs[i]? = some v → Rep W H d.2 v.2) : Rep W H (.obj c ds) (.ref a)
  | fn {x : Str} {C : Addr} (g : W.mg x = some (.ref C)) : Rep W H (.fn x) (.ref C)

/-- item by item -/
structure RepL (W : Wd) (H : Hp) (ds : List D) (vs : List V) : Prop where
  n : ds.length = vs.length
  r : ∀ (i : Nat) d v, ds[i]? = some d → vs[i]? = some v → Rep W H d v

section
variable {W : Wd} {H H' : Hp} {d : D} {v : V} {ds es : List D} {vs ws : List V} {a : Addr}
theorem sqT_keep {K : PySem.W.Frag} {xs : List V} (e : Same H H') (h : SqT K H a xs) : SqT K H' a xs := by
  rcases h with (h | ⟨o, h⟩) | h
  · exact .inl (.inl (e _ _ h))
  · exact .inl (.inr ⟨o, e _ _ h⟩)
  · exact .inr h
theorem Rep.keep (e : Same H H') (r : Rep W H d v) : Rep W H' d v := by
  induction r with
  | non => exact .non
  | bl b => exact .bl b
  | int i => exact .int i
  | str x => exact .str x
  | tup h n r ih => exact .tup (e _ _ h) n ih
  | lst h n r ih => exact .lst (e.seq h) n ih
  | dic h n k r ih => exact .dic (e _ _ h) n k ih
  | dicT h n k r ih => exact .dicT (e _ _ h) n k ih
  | obj h g n k r ih => exact .obj (e _ _ h) g n k ih
  | fn g => exact .fn g
theorem RepL.keep (e : Same H H') (r : RepL W H ds vs) : RepL W H' ds vs := ⟨r.n, fun i d v h1 h2 => (r.r i d v h1 h2).keep e⟩
theorem RepL.nil : RepL W H [] [] := ⟨rfl, fun i d v h => by simp at h⟩
theorem RepL.cons (h : Rep W H d v) (r : RepL W H ds vs) : RepL W H (d :: ds) (v :: vs) :=
  ⟨by simp [r.n], fun i d' v' h1 h2 => by
    cases i with
    | zero => simp at h1 h2; subst h1; subst h2; exact h
    | succ i => exact r.r i d' v' (by simpa using h1) (by simpa using h2)⟩
theorem RepL.append (r : RepL W H ds vs) (q : RepL W H es ws) : RepL W H (ds ++ es) (vs ++ ws) :=
  ⟨by simp [r.n, q.n], fun i d' v' h1 h2 => by
    by_cases hi : i < ds.length
    · rw [List.getElem?_append_left hi] at h1
      rw [List.getElem?_append_left (by rw [← r.n]; exact hi)] at h2
      exact r.r i d' v' h1 h2
    · rw [List.getElem?_append_right (by omega)] at h1
      rw [List.getElem?_append_right (by rw [← r.n]; omega), ← r.n] at h2
      exact q.r _ d' v' h1 h2⟩
theorem RepL.get {i : Nat} (r : RepL W H ds vs) (h : ds[i]? = some d) : ∃ v, vs[i]? = some v ∧ Rep W H d v := by
  have hi : i < vs.length := by rw [← r.n]; exact (List.getElem?_eq_some_iff.mp h).1
  exact ⟨vs[i], List.getElem?_eq_getElem hi, r.r i d _ h (List.getElem?_eq_getElem hi)⟩
theorem RepL.sub (r : RepL W H ds vs) (f : Nat → Nat) (n : Nat) (es : List D) (ws : List V) (h1 : es.length = n) (h2 : ws.length = n) (he : ∀ i, i < n → es[i]? = ds[f i]?) (hw : ∀ i, i < n → ws[i]? = vs[f i]?) : RepL W H es ws :=
  ⟨by rw [h1, h2], fun i d v e1 e2 => by
    have hi : i < n := by rw [← h1]; exact (List.getElem?_eq_some_iff.mp e1).1
    rw [he i hi] at e1
    rw [hw i hi] at e2
    exact r.r _ d v e1 e2⟩
theorem RepL.drop (r : RepL W H ds vs) (k : Nat) : RepL W H (ds.drop k) (vs.drop k) :=
  ⟨by simp [r.n], fun i d v e1 e2 => by
    rw [List.getElem?_drop] at e1 e2
    exact r.r _ d v e1 e2⟩
theorem RepL.take (r : RepL W H ds vs) (k : Nat) : RepL W H (ds.take k) (vs.take k) :=
  ⟨by simp [r.n], fun i d v e1 e2 => by
    rw [List.getElem?_take] at e1 e2
    split at e1
    · rename_i hk
      rw [if_pos hk] at e2
      exact r.r _ d v e1 e2
    · cases e1⟩
theorem RepL.reverse (r : RepL W H ds vs) : RepL W H ds.reverse vs.reverse :=
  ⟨by simp [r.n], fun i d v e1 e2 => by
    have hi : i < ds.length := by
      have := (List.getElem?_eq_some_iff.mp e1).1
      simpa using this
    rw [List.getElem?_reverse hi] at e1
    rw [List.getElem?_reverse (by rw [← r.n]; exact hi), ← r.n] at e2
    exact r.r _ d v e1 e2⟩
theorem RepL.set (r : RepL W H ds vs) (i : Nat) (h : Rep W H d v) : RepL W H (ds.set i d) (vs.set i v) :=
  ⟨by simp [r.n], fun j d' v' e1 e2 => by
    rw [List.getElem?_set] at e1 e2
    by_cases hij : i = j
    · subst hij
      rw [if_pos rfl] at e1 e2
      split at e1
      · split at e2
        · cases e1; cases e2; exact h
        · cases e2
      · cases e1
    · rw [if_neg hij] at e1 e2
      exact r.r _ _ _ e1 e2⟩
theorem RepL.tup {a : Addr} (r : RepL W H ds vs) (h : H a = some (.tup vs)) : Rep W H (.tup ds) (.ref a) := .tup h r.n r.r
theorem RepL.lst {a : Addr} (r : RepL W H ds vs) (h : SqL W.K H a vs) : Rep W H (.lst ds) (.ref a) := .lst h r.n r.r
theorem Rep.tup_inv (r : Rep W H (.tup ds) v) : ∃ a vs, v = .ref a ∧ SqT W.K H a vs ∧ RepL W H ds vs := by
  cases r with
  | tup h n r => exact ⟨_, _, rfl, SqT.of h, n, r⟩
theorem Rep.tup_inv' (r : Rep W H (.tup ds) v) : ∃ a vs, v = .ref a ∧ H a = some (.tup vs) ∧ RepL W H ds vs := by
  cases r with
  | tup h n r => exact ⟨_, _, rfl, h, n, r⟩
theorem Rep.lst_inv (r : Rep W H (.lst ds) v) : ∃ a vs, v = .ref a ∧ SqL W.K H a vs ∧ RepL W H ds vs := by
  cases r with
  | lst h n r => exact ⟨_, _, rfl, h, n, r⟩
theorem Rep.int_inv {i : Int} (r : Rep W H (.int i) v) : v = .int i := by cases r; rfl
theorem Rep.bl_inv {b : Bool} (r : Rep W H (.bl b) v) : v = .bl b := by cases r; rfl
theorem Rep.str_inv {x : Str} (r : Rep W H (.str x) v) : v = .str x := by cases r; rfl
theorem Rep.non_inv (r : Rep W H .non v) : v = .non := by cases r; rfl
theorem RepL.nil_inv (r : RepL W H [] vs) : vs = [] := by
  have := r.n
  cases vs with
  | nil => rfl
  | cons _ _ => simp at this
theorem RepL.cons_inv (r : RepL W H (d :: ds) vs) : ∃ v ws, vs = v :: ws ∧ Rep W H d v ∧ RepL W H ds ws := by
  cases vs with
  | nil => have := r.n; simp at this
  | cons v ws => exact ⟨v, ws, rfl, r.r 0 d v rfl rfl, by have := r.n; simpa using this, fun i d' v' h1 h2 => r.r (i + 1) d' v' (by simpa using h1) (by simpa using h2)⟩
theorem RepL.ints : ∀ {ns : List Int} {vs : List V}, RepL W H (ns.map D.int) vs → vs = ns.map V.int
  | [], _, r => r.nil_inv
  | n :: ns, vs, r => by
    obtain ⟨v, ws, rfl, h, q⟩ := RepL.cons_inv (d := D.int n) (ds := ns.map D.int) r
    rw [h.int_inv, RepL.ints q]
    rfl
theorem RepL.of_ints (ns : List Int) : RepL W H (ns.map D.int) (ns.map V.int) :=
  ⟨by simp, fun i d v h1 h2 => by
    rw [List.getElem?_map] at h1 h2
    cases e : ns[i]? with
    | none => rw [e] at h1; cases h1
    | some n => rw [e] at h1 h2; cases h1; cases h2; exact .int n⟩
end

/-! no list, dict, object within -/
mutual
def D.imm : D → Bool
  | .non => true
  | .bl _ => true
  | .int _ => true
  | .str _ => true
  | .tup xs => D.imms xs
  | .lst _ => false
  | .dic _ _ => false
  | .obj _ _ => false
  | .fn _ => true
def D.imms : List D → Bool
  | [] => true
  | x :: r => x.imm && D.imms r
end
theorem D.imms_get : ∀ {ds : List D}, D.imms ds = true → ∀ {i : Nat} {d : D}, ds[i]? = some d → d.imm = true
  | [], _, i, d, e => by simp at e
  | x :: r, h, 0, d, e => by
    rw [D.imms, Bool.and_eq_true] at h
    simp at e; subst e; exact h.1
  | x :: r, h, i + 1, d, e => by
    rw [D.imms, Bool.and_eq_true] at h
    exact D.imms_get h.2 (by simpa using e)
theorem D.imm_tup {ds : List D} (h : (D.tup ds).imm = true) {i : Nat} {d : D} (e : ds[i]? = some d) : d.imm = true := by
  rw [D.imm] at h
  exact D.imms_get h e
theorem Rep.imm {W : Wd} {F H : Hp} {d : D} {v : V} (t : ∀ a xs, Rd H a (.tup xs) → F a = H a) (r : Rep W H d v) : d.imm = true → Rep W F d v := by
  induction r with
  | non => exact fun _ => .non
  | bl b => exact fun _ => .bl b
  | int i => exact fun _ => .int i
  | str x => exact fun _ => .str x
  | @tup a ds vs h n r ih =>
    intro hi
    refine .tup ?_ n fun i d v h1 h2 => ih i d v h1 h2 (D.imm_tup hi h1)
    rw [t _ _ (.inl h)]
    exact h
  | lst h n r ih => intro hi; simp [D.imm] at hi
  | dic h n k r ih => intro hi; simp [D.imm] at hi
  | dicT h n k r ih => intro hi; simp [D.imm] at hi
  | obj h g n k r ih => intro hi; simp [D.imm] at hi
  | fn g => exact fun _ => .fn g

/-! ### slots and results -/
/-- what a slot holds: nothing | a shared value | a value lent by the caller | an own list (dict, object) | one that the caller hands over to be changed -/
inductive SV where
  | no | exn | sh (d : D) | bor (d : D) | own (d : D) | io (d : D)
deriving Inhabited
/-- an expression's result: a shared value | a lent one | what stands in slot i | a new list (dict, object) that nobody else holds -/
inductive RV where
  | val (d : D) | bval (d : D) | slot (i : Nat) | fresh (d : D)
deriving Inhabited
/-- an error: its class, its fields -/
structure Xn where
  c : Str
  fs : List (Str × D)
inductive R (α : Type) where
  | ok (a : α) (sd : List SV)
  | exc (x : Xn) (sd : List SV)
  | fail
abbrev M (α : Type) := List SV → R α
def SV.d? : SV → Option D
  | .no => none
  | .exn => none
  | .sh d => some d
  | .bor d => some d
  | .own d => some d
  | .io d => some d
def RV.d? (sd : List SV) : RV → Option D
  | .val d => some d
  | .bval d => some d
  | .fresh d => some d
  | .slot i => (sd[i]?.getD .no).d?
/-- an own object at a: its own content -/
def OwnO (W : Wd) (F H : Hp) (a : Addr) : D → Prop
  | .lst ds => ∃ vs, H a = some (.lst vs) ∧ RepL W F ds vs
  | .dic t ds => (t = false ∧ ∃ kvs : List (Key × V), H a = some (.dK kvs) ∧ ds.length = kvs.length ∧ (∀ (i : Nat) d v, ds[i]? = some d → kvs[i]? = some v → d.1 = keyD v.1) ∧ ∀ (i : Nat) d v, ds[i]? = some d → kvs[i]? = some v → Rep W F d.2 v.2) ∨
      t = true ∧ ∃ kvs : List (List Key × V), H a = some (.dT kvs) ∧ ds.length = kvs.length ∧ (∀ (i : Nat) d v, ds[i]? = some d → kvs[i]? = some v → d.1 = .tup (v.1.map keyD)) ∧ ∀ (i : Nat) d v, ds[i]? = some d → kvs[i]? = some v → Rep W F d.2 v.2
  | .obj c ds => ∃ (C dx : Addr) (fs : List (Str × V)), H a = some (.ins C dx fs) ∧ W.mg c = some (.ref C) ∧ ds.length = fs.length ∧ (∀ (i : Nat) d v, ds[i]? = some d → fs[i]? = some v → d.1 = v.1) ∧ ∀ (i : Nat) d v, ds[i]? = some d → fs[i]? = some v → Rep W F d.2 v.2
  | _ => False
/-- what is fixed through a def's run: the world; the heap at the entry, its shared part, its steady part; the slots whose objects the caller hands over -/
structure Fx where

  H0 : Hp
  F0 : Hp
  G0 : Hp
  pin : List (Nat × Addr)
  hold : List (Addr × HO) := []
  exn : Option (Nat × Addr) := none
def SlotR (W : Wd) (fx : Fx) (F G H : Hp) (i : Nat) (σ : St) : SV → Prop
  | .no => True
  | .exn => ∃ a, fx.exn = some (i, a) ∧ σ[i]? = some (some (.ref a))
  | .sh d => ∃ v, σ[i]? = some (some v) ∧ Rep W F d v
  | .bor d => ∃ v, σ[i]? = some (some v) ∧ Rep W G d v
  | .own d => ∃ a, σ[i]? = some (some (.ref a)) ∧ G a = none ∧ fx.H0 a = none ∧ OwnO W F H a d
  | .io d => ∃ a, (i, a) ∈ fx.pin ∧ σ[i]? = some (some (.ref a)) ∧ G a = none ∧ OwnO W F H a d
def SV.mine : SV → Bool
  | .own _ => true
  | .io _ => true
  | _ => false
/-- what a heap does: it grows, all tuples are shared -/
structure HR (fx : Fx) (F G H : Hp) : Prop where
  ff : Same fx.F0 F
  fn : ∀ a o, F a = some o → fx.F0 a = some o ∨ fx.H0 a = none
  gg : Same fx.G0 G
  gn : ∀ a o, G a = some o → fx.G0 a = some o ∨ fx.H0 a = none
  fg : Same F G
  gh : Same G H
  dom : ∀ a, H a = none → fx.H0 a = none
  tup : ∀ a xs, Rd H a (.tup xs) → F a = H a
  held : ∀ a o, (a, o) ∈ fx.hold → H a = some o ∧ G a = none ∧ fx.H0 a = none
structure SR (W : Wd) (fx : Fx) (F G H : Hp) (sd : List SV) (σ : St) : Prop extends HR fx F G H where
  len : sd.length = σ.length
  slot : ∀ i s, sd[i]? = some s → SlotR W fx F G H i σ s
  apart : ∀ (i j : Nat) (s s' : SV) (a : Addr), sd[i]? = some s → sd[j]? = some s' → s.mine = true → s'.mine = true → σ[i]? = some (some (V.ref a)) → σ[j]? = some (some (V.ref a)) → i = j
  free : ∀ (a : Addr) (o : HO), (a, o) ∈ fx.hold → ∀ (i : Nat) (s : SV), sd[i]? = some s → s.mine = true → σ[i]? ≠ some (some (V.ref a))
def RVR (W : Wd) (fx : Fx) (F G H : Hp) (sd : List SV) (σ : St) (rv : RV) (v : V) : Prop := match rv with
  | .val d => Rep W F d v
  | .bval d => Rep W G d v
  | .slot i => σ[i]? = some (some v)
  | .fresh d => ∃ a, v = .ref a ∧ G a = none ∧ fx.H0 a = none ∧ OwnO W F H a d ∧ (∀ (i : Nat) (s : SV), sd[i]? = some s → s.mine = true → σ[i]? ≠ some (some (V.ref a))) ∧ ∀ o, (a, o) ∉ fx.hold
/-- an error as it flies: its class's object, its own dict (where it has one) -/
def ExR (W : Wd) (F H : Hp) (x : Xn) (c : Value) (d : Option Addr) : Prop :=
  W.mg x.c = some c ∧ (x.fs = [] ∨ ∃ a fs, d = some a ∧ F a = some (.xd fs) ∧ fs.map (·.1) = x.fs.map (·.1) ∧ RepL W F (x.fs.map (·.2)) (fs.map (·.2)))
end Av

/-! how the state moves: a new object, a freeze; the judgements over data; variables, constants, two operands -/
namespace Av
open PySem L2

section
variable {W : Wd} {fx : Fx} {F G H F' G' H' : Hp} {sd : List SV} {σ : St} {a : Addr} {o : HO} {d : D} {v : V}
theorem OwnO.keepF (e : Same F F') (h : OwnO W F H a d) : OwnO W F' H a d := by
  cases d with
  | lst ds => obtain ⟨vs, h1, h2⟩ := h; exact ⟨vs, h1, h2.keep e⟩
  | dic t ds =>
    rcases h with ⟨rfl, kvs, h1, h2, h3, h4⟩ | ⟨rfl, kvs, h1, h2, h3, h4⟩
    · exact .inl ⟨rfl, kvs, h1, h2, h3, fun i d v e1 e2 => (h4 i d v e1 e2).keep e⟩
    · exact .inr ⟨rfl, kvs, h1, h2, h3, fun i d v e1 e2 => (h4 i d v e1 e2).keep e⟩
  | obj c ds => obtain ⟨C, dx, fs, h1, h2, h3, h4, h5⟩ := h; exact ⟨C, dx, fs, h1, h2, h3, h4, fun i d v e1 e2 => (h5 i d v e1 e2).keep e⟩
  | _ => exact h
theorem OwnO.keepH (e : H' a = H a) (h : OwnO W F H a d) : OwnO W F H' a d := by
  cases d with
  | lst ds => obtain ⟨vs, h1, h2⟩ := h; exact ⟨vs, e.trans h1, h2⟩
  | dic t ds =>
    rcases h with ⟨rfl, kvs, h1, h2, h3, h4⟩ | ⟨rfl, kvs, h1, h2, h3, h4⟩
    · exact .inl ⟨rfl, kvs, e.trans h1, h2, h3, h4⟩
    · exact .inr ⟨rfl, kvs, e.trans h1, h2, h3, h4⟩
  | obj c ds => obtain ⟨C, dx, fs, h1, h2, h3, h4, h5⟩ := h; exact ⟨C, dx, fs, e.trans h1, h2, h3, h4, h5⟩
  | _ => exact h
/-- an own object is read -/
theorem OwnO.rep (e : Same F H) (h : OwnO W F H a d) : Rep W H d (.ref a) := by
  cases d with
  | lst ds => obtain ⟨vs, h1, h2⟩ := h; exact (h2.keep e).lst (SqL.of h1)
  | dic t ds =>
    rcases h with ⟨rfl, kvs, h1, h2, h3, h4⟩ | ⟨rfl, kvs, h1, h2, h3, h4⟩
    · exact .dic h1 h2 h3 fun i d v e1 e2 => (h4 i d v e1 e2).keep e
    · exact .dicT h1 h2 h3 fun i d v e1 e2 => (h4 i d v e1 e2).keep e
  | obj c ds => obtain ⟨C, dx, fs, h1, h2, h3, h4, h5⟩ := h; exact .obj h1 h2 h3 h4 fun i d v e1 e2 => (h5 i d v e1 e2).keep e
  | _ => exact h.elim
theorem OwnO.there (h : OwnO W F H a d) : ∃ o, H a = some o ∧ ∀ xs, ¬ Rd H a (.tup xs) := by
  have k : ∀ o : HO, H a = some o → (∀ xs, o ≠ .tup xs) → (∀ ob u, o ≠ .frz ob u) → ∃ o, H a = some o ∧ ∀ xs, ¬ Rd H a (.tup xs) := fun o e n1 n2 => ⟨o, e, fun xs r => by
    rcases r with r | ⟨ob, r⟩
    · rw [e] at r; exact n1 xs (Option.some.inj r)
    · rw [e] at r; exact n2 _ _ (Option.some.inj r)⟩
  cases d with
  | lst ds => obtain ⟨vs, h1, h2⟩ := h; exact k _ h1 (fun _ z => by cases z) (fun _ _ z => by cases z)
  | dic t ds =>
    rcases h with ⟨rfl, kvs, h1, _⟩ | ⟨rfl, kvs, h1, _⟩
    · exact k _ h1 (fun _ z => by cases z) (fun _ _ z => by cases z)
    · exact k _ h1 (fun _ z => by cases z) (fun _ _ z => by cases z)
  | obj c ds => obtain ⟨C, dx, fs, h1, _⟩ := h; exact k _ h1 (fun _ z => by cases z) (fun _ _ z => by cases z)
  | _ => exact h.elim
theorem same_upd (h : H a = none) : Same H (upd H a o) := fun b u e => by
  rw [upd_ne (ne_of_none e h)]; exact e
theorem SR.fh (S : SR W fx F G H sd σ) : Same F H := S.fg.trans S.gh
theorem SR.freeF (S : SR W fx F G H sd σ) (h : H a = none) : F a = none := S.fh.free h
theorem SR.freeG (S : SR W fx F G H sd σ) (h : H a = none) : G a = none := S.gh.free h
/-- a slot's relation goes on when the shared parts grow and its own object stays -/
theorem SlotR.keep {i : Nat} {s : SV} (eF : Same F F') (eG : Same G G') (own : ∀ a, σ[i]? = some (some (.ref a)) → s.mine = true → G a = none → (∃ o, H a = some o) → H' a = H a ∧ G' a = none) (h : SlotR W fx F G H i σ s) : SlotR W fx F' G' H' i σ s := by
  cases s with
  | no => exact h
  | exn => exact h
  | sh d => obtain ⟨v, h1, h2⟩ := h; exact ⟨v, h1, h2.keep eF⟩
  | bor d => obtain ⟨v, h1, h2⟩ := h; exact ⟨v, h1, h2.keep eG⟩
  | own d =>
    obtain ⟨a, h1, h2, h3, h4⟩ := h
    obtain ⟨o, ho, _⟩ := h4.there
    obtain ⟨e1, e2⟩ := own a h1 rfl h2 ⟨o, ho⟩
    exact ⟨a, h1, e2, h3, (h4.keepF eF).keepH e1⟩
  | io d =>
    obtain ⟨a, h0, h1, h2, h4⟩ := h
    obtain ⟨o, ho, _⟩ := h4.there
    obtain ⟨e1, e2⟩ := own a h1 rfl h2 ⟨o, ho⟩
    exact ⟨a, h0, h1, e2, (h4.keepF eF).keepH e1⟩
/-- a new object, nobody's yet -/
theorem SR.newOwn (S : SR W fx F G H sd σ) (h : H a = none) (ht : ∀ xs, o ≠ .tup xs) (hf : ∀ ob u, o ≠ .frz ob u) : SR W fx F G (upd H a o) sd σ where
  ff := S.ff
  fn := S.fn
  gg := S.gg
  gn := S.gn
  fg := S.fg
  gh := S.gh.trans (same_upd h)
  dom := fun b e => by
    by_cases hb : b = a
    · subst hb; rw [upd_same] at e; cases e
    · rw [upd_ne hb] at e; exact S.dom b e
  tup := fun b xs r => by
    by_cases hb : b = a
    · subst hb
      rcases r with r | ⟨ob, r⟩
      · rw [upd_same] at r; exact absurd (Option.some.inj r) (ht xs)
      · rw [upd_same] at r; exact absurd (Option.some.inj r) (hf _ _)
    · rw [upd_ne hb]
      exact S.tup b xs (by
        rcases r with r | ⟨ob, r⟩
        · rw [upd_ne hb] at r; exact .inl r
        · rw [upd_ne hb] at r; exact .inr ⟨ob, r⟩)
  held := fun b u hm => by
    obtain ⟨h1, h2, h3⟩ := S.held b u hm
    exact ⟨by rw [upd_ne (ne_of_none h1 h)]; exact h1, h2, h3⟩
  len := S.len
  slot := fun i s e => (S.slot i s e).keep (Same.refl _) (Same.refl _) fun b h1 _ h2 ⟨u, h3⟩ => ⟨upd_ne (ne_of_none h3 h), h2⟩
  apart := S.apart
  free := S.free
/-- a new object, shared -/
theorem SR.newSh (S : SR W fx F G H sd σ) (h : H a = none) : SR W fx (upd F a o) (upd G a o) (upd H a o) sd σ where
  ff := S.ff.trans (same_upd (S.freeF h))
  fn := fun b u e => by
    by_cases hb : b = a
    · subst hb; exact .inr (S.dom _ h)
    · rw [upd_ne hb] at e; exact S.fn b u e
  gg := S.gg.trans (same_upd (S.freeG h))
  gn := fun b u e => by
    by_cases hb : b = a
    · subst hb; exact .inr (S.dom _ h)
    · rw [upd_ne hb] at e; exact S.gn b u e
  fg := fun b u e => by
    by_cases hb : b = a
    · subst hb; rw [upd_same] at e ⊢; exact e
    · rw [upd_ne hb] at e ⊢; exact S.fg b u e
  gh := fun b u e => by
    by_cases hb : b = a
    · subst hb; rw [upd_same] at e ⊢; exact e
    · rw [upd_ne hb] at e ⊢; exact S.gh b u e
  dom := fun b e => by
    by_cases hb : b = a
    · subst hb; rw [upd_same] at e; cases e
    · rw [upd_ne hb] at e; exact S.dom b e
  tup := fun b xs r => by
    by_cases hb : b = a
    · subst hb; rw [upd_same, upd_same]
    · rw [upd_ne hb, upd_ne hb]
      exact S.tup b xs (by
        rcases r with r | ⟨ob, r⟩
        · rw [upd_ne hb] at r; exact .inl r
        · rw [upd_ne hb] at r; exact .inr ⟨ob, r⟩)
  held := fun b u hm => by
    obtain ⟨h1, h2, h3⟩ := S.held b u hm
    exact ⟨by rw [upd_ne (ne_of_none h1 h)]; exact h1, by rw [upd_ne (ne_of_none h1 h)]; exact h2, h3⟩
  len := S.len
  slot := fun i s e => (S.slot i s e).keep (same_upd (S.freeF h)) (same_upd (S.freeG h)) fun b h1 _ h2 ⟨u, h3⟩ => ⟨upd_ne (ne_of_none h3 h), by rw [upd_ne (ne_of_none h3 h)]; exact h2⟩
  apart := S.apart
  free := S.free
/-- what stands at a becomes shared -/
def frzH (F H : Hp) (a : Addr) : Hp := fun b => if b = a then H a else F b
theorem frzH_same : frzH F H a a = H a := by unfold frzH; rw [if_pos rfl]
theorem frzH_ne {b : Addr} (h : b ≠ a) : frzH F H a b = F b := by unfold frzH; rw [if_neg h]
theorem frz_same (h : F a = none) : Same F (frzH F H a) := fun b u e => by
  rw [frzH_ne (ne_of_none e h)]; exact e
theorem OwnO.frz (h : OwnO W F H a d) (hn : F a = none) : Rep W (frzH F H a) d (.ref a) := by
  have h' := h.keepF (frz_same (H := H) hn)
  cases d with
  | lst ds => obtain ⟨vs, h1, h2⟩ := h'; exact h2.lst (SqL.of (frzH_same.trans h1))
  | dic t ds =>
    rcases h' with ⟨rfl, kvs, h1, h2, h3, h4⟩ | ⟨rfl, kvs, h1, h2, h3, h4⟩
    · exact .dic (frzH_same.trans h1) h2 h3 h4
    · exact .dicT (frzH_same.trans h1) h2 h3 h4
  | obj c ds => obtain ⟨C, dx, fs, h1, h2, h3, h4, h5⟩ := h'; exact .obj (frzH_same.trans h1) h2 h3 h4 h5
  | _ => exact h.elim
theorem HR.frz (S : HR fx F G H) (hg : G a = none) (h0 : fx.H0 a = none) (nh : ∀ o, (a, o) ∉ fx.hold) : HR fx (frzH F H a) (frzH G H a) H where
  ff := S.ff.trans (frz_same (S.fg.free hg))
  fn := fun b u e => by
    by_cases hb : b = a
    · subst hb; exact .inr h0
    · rw [frzH_ne hb] at e; exact S.fn b u e
  gg := S.gg.trans (frz_same hg)
  gn := fun b u e => by
    by_cases hb : b = a
    · subst hb; exact .inr h0
    · rw [frzH_ne hb] at e; exact S.gn b u e
  fg := fun b u e => by
    by_cases hb : b = a
    · subst hb; rw [frzH_same] at e ⊢; exact e
    · rw [frzH_ne hb] at e ⊢; exact S.fg b u e
  gh := fun b u e => by
    by_cases hb : b = a
    · subst hb; rw [frzH_same] at e; exact e
    · rw [frzH_ne hb] at e; exact S.gh b u e
  dom := S.dom
  tup := fun b xs r => by
    by_cases hb : b = a
    · subst hb; exact frzH_same
    · rw [frzH_ne hb]; exact S.tup b xs r
  held := fun b u hm => by
    obtain ⟨h1, h2, h3⟩ := S.held b u hm
    have hb : b ≠ a := fun z => by subst z; exact nh u hm
    exact ⟨h1, by rw [frzH_ne hb]; exact h2, h3⟩
/-- a fresh result becomes shared -/
theorem SR.frzFresh (S : SR W fx F G H sd σ) (hg : G a = none) (h0 : fx.H0 a = none) (no : ∀ (i : Nat) (s : SV), sd[i]? = some s → s.mine = true → σ[i]? ≠ some (some (V.ref a))) (nh : ∀ o, (a, o) ∉ fx.hold) : SR W fx (frzH F H a) (frzH G H a) H sd σ where
  toHR := S.toHR.frz hg h0 nh
  len := S.len
  slot := fun i s e => (S.slot i s e).keep (frz_same (S.fg.free hg)) (frz_same hg) fun b h1 hm h2 _ => ⟨rfl, by
    have : b ≠ a := fun z => by subst z; exact no i s e hm h1
    rw [frzH_ne this]; exact h2⟩
  apart := S.apart
  free := S.free
/-- the own object of slot i becomes shared -/
theorem SR.frzSlot {i : Nat} (S : SR W fx F G H sd σ) (hi : sd[i]? = some (.own d)) : ∃ F' G' v, Same F F' ∧ Same G G' ∧ SR W fx F' G' H (sd.set i (.sh d)) σ ∧ σ[i]? = some (some v) ∧ Rep W F' d v := by
  obtain ⟨a, h1, h2, h3, h4⟩ := S.slot i _ hi
  have hil : i < sd.length := (List.getElem?_eq_some_iff.mp hi).1
  have nh : ∀ o, (a, o) ∉ fx.hold := fun o hm => S.free a o hm i _ hi rfl h1
  refine ⟨frzH F H a, frzH G H a, .ref a, frz_same (S.fg.free h2), frz_same h2, ⟨S.toHR.frz h2 h3 nh, by rw [List.length_set]; exact S.len, fun j s e => ?_, fun j k s s' b e1 e2 m1 m2 p1 p2 => ?_, fun b o hm j s e m => ?_⟩, h1, h4.frz (S.fg.free h2)⟩
  · rw [List.getElem?_set] at e
    by_cases hj : i = j
    · subst hj
      rw [if_pos rfl, if_pos hil] at e
      cases e
      exact ⟨.ref a, h1, h4.frz (S.fg.free h2)⟩
    · rw [if_neg hj] at e
      exact (S.slot j s e).keep (frz_same (S.fg.free h2)) (frz_same h2) fun b p1 hm p2 _ => ⟨rfl, by
        have : b ≠ a := fun z => by subst z; exact hj (S.apart i j _ _ _ hi e rfl hm h1 p1)
        rw [frzH_ne this]; exact p2⟩
  · rw [List.getElem?_set] at e1 e2
    by_cases hj : i = j
    · subst hj; rw [if_pos rfl, if_pos hil] at e1; cases e1; cases m1
    · by_cases hk : i = k
      · subst hk; rw [if_pos rfl, if_pos hil] at e2; cases e2; cases m2
      · rw [if_neg hj] at e1
        rw [if_neg hk] at e2
        exact S.apart j k s s' b e1 e2 m1 m2 p1 p2
  · rw [List.getElem?_set] at e
    by_cases hj : i = j
    · subst hj; rw [if_pos rfl, if_pos hil] at e; cases e; cases m
    · rw [if_neg hj] at e; exact S.free b o hm j s e m
/-- what a result stands for, read now -/
theorem RVR.read {rv : RV} (S : SR W fx F G H sd σ) (r : RVR W fx F G H sd σ rv v) (h : rv.d? sd = some d) : Rep W H d v := by
  cases rv with
  | val e => cases h; exact Rep.keep S.fh r
  | bval e => cases h; exact Rep.keep S.gh r
  | fresh e =>
    cases h
    obtain ⟨a, rfl, h1, h2, h3, _⟩ := r
    exact h3.rep S.fh
  | slot i =>
    have r : σ[i]? = some (some v) := r
    cases e : sd[i]? with
    | none => rw [RV.d?, e] at h; cases h
    | some s =>
      rw [RV.d?, e] at h
      have q := S.slot i s e
      cases s with
      | no => cases h
      | exn => cases h
      | sh d' => cases h; obtain ⟨v', h1, h2⟩ := q; rw [r] at h1; cases h1; exact h2.keep S.fh
      | bor d' => cases h; obtain ⟨v', h1, h2⟩ := q; rw [r] at h1; cases h1; exact h2.keep S.gh
      | own d' => cases h; obtain ⟨a, h1, h2, h3, h4⟩ := q; rw [r] at h1; cases h1; exact h4.rep S.fh
      | io d' => cases h; obtain ⟨a, _, h1, h2, h4⟩ := q; rw [r] at h1; cases h1; exact h4.rep S.fh
def RV.keep : RV → RV
  | .fresh d => .val d
  | rv => rv
theorem RVR.keep {rv : RV} (S : SR W fx F G H sd σ) (r : RVR W fx F G H sd σ rv v) : ∃ F' G', Same F F' ∧ Same G G' ∧ SR W fx F' G' H sd σ ∧ RVR W fx F' G' H sd σ rv.keep v := by
  cases rv with
  | fresh e =>
    obtain ⟨a, rfl, h1, h2, h3, h4, h5⟩ := r
    exact ⟨_, _, frz_same (S.fg.free h1), frz_same h1, S.frzFresh h1 h2 h4 h5, h3.frz (S.fg.free h1)⟩
  | val e => exact ⟨F, G, Same.refl _, Same.refl _, S, r⟩
  | bval e => exact ⟨F, G, Same.refl _, Same.refl _, S, r⟩
  | slot i => exact ⟨F, G, Same.refl _, Same.refl _, S, r⟩
theorem RVR.mono {rv : RV} {sd' : List SV} (eF : Same F F') (eG : Same G G') (r : RVR W fx F G H sd σ rv.keep v) : RVR W fx F' G' H' sd' σ rv.keep v := by
  cases rv with
  | fresh e => exact Rep.keep eF r
  | val e => exact Rep.keep eF r
  | bval e => exact Rep.keep eG r
  | slot i => exact r
end
end Av

/-! the judgements over data; variables, constants, operands, tests, displays, calls of built-ins -/
namespace Av
open PySem L2

def R.bind {α β : Type} (r : R α) (f : α → M β) : R β := match r with
  | .ok a sd => f a sd
  | .exc x sd => .exc x sd
  | .fail => .fail
def mBind {α β : Type} (m : M α) (f : α → M β) : M β := fun sd => (m sd).bind f
def mPure {α : Type} (a : α) : M α := fun sd => .ok a sd
def mFail {α : Type} : M α := fun _ => .fail
def mGet {α : Type} (o : Option α) : M α := fun sd => match o with
  | some a => .ok a sd
  | none => .fail

/-- what is wanted of a run's end. Rl: what the result stands for -/
def Po {α β : Type} (W : Wd) (fx : Fx) (F G : Hp) (σ : St) (Wx : WX) (Rl : Hp → Hp → Hp → List SV → α → β → Prop) (Q : β → Hp → Prop) : R α → Prop
  | .ok a sd => ∀ F' G' H' b, Same F F' → Same G G' → SR W fx F' G' H' sd σ → Rl F' G' H' sd a b → Q b H'
  | .exc x sd => ∀ F' G' H' c d, Same F F' → Same G G' → SR W fx F' G' H' sd σ → ExR W F' H' x c d → Wx c d σ H'
  | .fail => False
theorem Po.mono {α β : Type} {W : Wd} {fx : Fx} {F G F1 G1 : Hp} {σ : St} {Wx : WX} {Rl : Hp → Hp → Hp → List SV → α → β → Prop} {Q : β → Hp → Prop} {r : R α} (eF : Same F F1) (eG : Same G G1) (h : Po W fx F G σ Wx Rl Q r) : Po W fx F1 G1 σ Wx Rl Q r := by
  cases r with
  | ok a sd => exact fun F' G' H' b e1 e2 S q => h F' G' H' b (eF.trans e1) (eG.trans e2) S q
  | exc x sd => exact fun F' G' H' c d e1 e2 S q => h F' G' H' c d (eF.trans e1) (eG.trans e2) S q
  | fail => exact h

abbrev wd (X : Cx) : Wd := ⟨X.K, X.mg⟩
abbrev RlE (W : Wd) (fx : Fx) (σ : St) : Hp → Hp → Hp → List SV → RV → V → Prop := fun F G H sd rv v => RVR W fx F G H sd σ rv v
abbrev RlT : Hp → Hp → Hp → List SV → Bool → Bool → Prop := fun _ _ _ _ b c => b = c
/-- an expression does what m tells -/
structure SE (fx : Fx) (X : Cx) (Wx : WX) (e : Expr) (m : M RV) : Prop where
  ex : ∃ t, PE X e t ∧ ∀ F G H sd σ Q, SR (wd X) fx F G H sd σ → Po (wd X) fx F G σ Wx (RlE (wd X) fx σ) Q (m sd) → t σ H Q
structure ST (fx : Fx) (X : Cx) (Wx : WX) (e : Expr) (m : M Bool) : Prop where
  ex : ∃ t, PT X e t ∧ ∀ F G H sd σ Q, SR (wd X) fx F G H sd σ → Po (wd X) fx F G σ Wx RlT Q (m sd) → t σ H Q
/-- and, or as a test, whatever its whole is -/
structure SW (fx : Fx) (X : Cx) (Wx : WX) (e : Expr) (m : M Bool) : Prop where
  ex : ∃ t, PW X e t ∧ ∀ F G H sd σ Q, SR (wd X) fx F G H sd σ → Po (wd X) fx F G σ Wx RlT Q (m sd) → t σ H Q
/-- items of a result list, kept -/
def RVRs (W : Wd) (fx : Fx) (F G H : Hp) (sd : List SV) (σ : St) (rs : List RV) (vs : List V) : Prop := rs.length = vs.length ∧ ∀ (i : Nat) r v, rs[i]? = some r → vs[i]? = some v → RVR W fx F G H sd σ r.keep v
structure SA (fx : Fx) (X : Cx) (Wx : WX) (es : List Expr) (m : M (List RV)) : Prop where
  ex : ∃ t, PA X es t ∧ ∀ F G H sd σ Q, SR (wd X) fx F G H sd σ → Po (wd X) fx F G σ Wx (fun F G H sd rs vs => RVRs (wd X) fx F G H sd σ rs vs) Q (m sd) → t σ H Q

section
variable {fx : Fx} {X : Cx} {Wx : WX} {e a b c : Expr} {pos : Pos}

/-! ### variables, constants -/
def mVar (i : Nat) : M RV := fun sd => match sd[i]?.getD .no with
  | .no => .fail
  | .exn => .fail
  | .sh d => .ok (.val d) sd
  | .bor d => .ok (.bval d) sd
  | .own _ => .ok (.slot i) sd
  | .io _ => .ok (.slot i) sd
theorem se_var (i : Nat) {x : Str} (hN : X.N[i]? = some x) (hv : Vis X.env.scope x) (hd : (x == ("__debug__" : Str)) = false := by decide) (hcd : (x == ("__classdict__" : Str)) = false := by decide) : SE fx X Wx (.Name x pos) (mVar i) := by
  refine ⟨_, pe_var hN hv hd hcd, fun F G H sd σ Q S h => ?_⟩
  unfold mVar at h
  cases e : sd[i]? with
  | none => rw [e] at h; exact h.elim
  | some s =>
    rw [e] at h
    have q := S.slot i s e
    cases s with
    | no => exact h.elim
    | exn => exact h.elim
    | sh d => obtain ⟨v, h1, h2⟩ := q; exact ⟨v, h1, h F G H v (Same.refl _) (Same.refl _) S h2⟩
    | bor d => obtain ⟨v, h1, h2⟩ := q; exact ⟨v, h1, h F G H v (Same.refl _) (Same.refl _) S h2⟩
    | own d => obtain ⟨v, h1, h2⟩ := q; exact ⟨_, h1, h F G H _ (Same.refl _) (Same.refl _) S h1⟩
    | io d => obtain ⟨v, h0, h1, h2⟩ := q; exact ⟨_, h1, h F G H _ (Same.refl _) (Same.refl _) S h1⟩
def mC (d : D) : M RV := mPure (.val d)
theorem se_c {d : D} {v : V} (h : PE X e (tC v)) (r : ∀ F, Rep (wd X) F d v) : SE fx X Wx e (mC d) :=
  ⟨_, h, fun F G H sd σ Q S q => q F G H v (Same.refl _) (Same.refl _) S (r F)⟩
theorem se_int {i j} : SE fx X Wx (.Constant (.int i) j pos) (mC (.int i)) := se_c pe_int fun _ => .int i
theorem se_bl {b j} : SE fx X Wx (.Constant (.bool b) j pos) (mC (.bl b)) := se_c pe_bl fun _ => .bl b
theorem se_non {j} : SE fx X Wx (.Constant .none j pos) (mC .non) := se_c pe_non fun _ => .non
theorem se_str {x j} : SE fx X Wx (.Constant (.str x) j pos) (mC (.str x)) := se_c pe_str fun _ => .str x

/-! ### one and two operands -/
/-- a two-place operation by data; g: what it gives, or nothing where it isn't told -/
def OpS (fx : Fx) (X : Cx) (f : Value → Value → Sem Value) (g : D → D → Option RV) : Prop :=
  ∃ r : R2, OpR X f r ∧ ∀ F G H sd σ x y v u rv Q, SR (wd X) fx F G H sd σ → Rep (wd X) H x v → Rep (wd X) H y u → g x y = some rv →
    (∀ F' G' H' w, Same F F' → Same G G' → SR (wd X) fx F' G' H' sd σ → RVR (wd X) fx F' G' H' sd σ rv w → Q w H') → r v u H Q
def OpS1 (fx : Fx) (X : Cx) (f : Value → Sem Value) (g : D → Option RV) : Prop :=
  ∃ r : V → Hp → VK → Prop, UnR X f r ∧ ∀ F G H sd σ x v rv Q, SR (wd X) fx F G H sd σ → Rep (wd X) H x v → g x = some rv →
    (∀ F' G' H' w, Same F F' → Same G G' → SR (wd X) fx F' G' H' sd σ → RVR (wd X) fx F' G' H' sd σ rv w → Q w H') → r v H Q
def mRead (rv : RV) : M D := fun sd => match rv.d? sd with
  | some d => .ok d sd
  | none => .fail
def mOp (g : D → D → Option RV) (ma mb : M RV) : M RV := mBind ma fun ra => mBind mb fun rb => mBind (mRead ra.keep) fun x => mBind (mRead rb.keep) fun y => mGet (g x y)
def mUn (g : D → Option RV) (ma : M RV) : M RV := mBind ma fun ra => mBind (mRead ra.keep) fun x => mGet (g x)
/-- two operands, one after the other -/
theorem two {ta tb : TE} {ma mb : M RV} (ha : ∀ F G H sd σ Q, SR (wd X) fx F G H sd σ → Po (wd X) fx F G σ Wx (RlE (wd X) fx σ) Q (ma sd) → ta σ H Q)
    (hb : ∀ F G H sd σ Q, SR (wd X) fx F G H sd σ → Po (wd X) fx F G σ Wx (RlE (wd X) fx σ) Q (mb sd) → tb σ H Q) {α β : Type} {k : RV → RV → M α} {Rl : Hp → Hp → Hp → List SV → α → β → Prop} {Q : β → Hp → Prop} {T : V → V → Hp → Prop}
    {F G H : Hp} {sd : List SV} {σ : St} (S : SR (wd X) fx F G H sd σ) (h : Po (wd X) fx F G σ Wx Rl Q ((mBind ma fun ra => mBind mb fun rb => k ra rb) sd))
    (ht : ∀ F' G' H' sd' ra rb v u, Same F F' → Same G G' → SR (wd X) fx F' G' H' sd' σ → RVR (wd X) fx F' G' H' sd' σ ra.keep v → RVR (wd X) fx F' G' H' sd' σ rb.keep u → Po (wd X) fx F' G' σ Wx Rl Q (k ra rb sd') → T v u H') :
    ta σ H fun x H1 => tb σ H1 fun y H2 => T x y H2 := by
  refine ha F G H sd σ _ S ?_
  unfold mBind at h
  cases ea : ma sd with
  | fail => rw [ea] at h; exact h
  | exc x sd1 => rw [ea] at h; exact h
  | ok ra sd1 =>
    rw [ea] at h
    intro F1 G1 H1 v e1 e2 S1 r1
    obtain ⟨F2, G2, e3, e4, S2, r2⟩ := r1.keep S1
    refine hb F2 G2 H1 sd1 σ _ S2 ?_
    have h : Po (wd X) fx F G σ Wx Rl Q ((mb sd1).bind fun rb => k ra rb) := h
    cases eb : mb sd1 with
    | fail => rw [eb] at h; exact h
    | exc x sd2 => rw [eb] at h; exact fun F' G' H' c d i1 i2 S' q => h F' G' H' c d ((e1.trans e3).trans i1) ((e2.trans e4).trans i2) S' q
    | ok rb sd2 =>
      rw [eb] at h
      intro F3 G3 H3 u e5 e6 S3 r3
      obtain ⟨F4, G4, e7, e8, S4, r4⟩ := r3.keep S3
      exact ht F4 G4 H3 sd2 ra rb v u (((e1.trans e3).trans e5).trans e7) (((e2.trans e4).trans e6).trans e8) S4 (r2.mono (e5.trans e7) (e6.trans e8)) r4 (h.mono (((e1.trans e3).trans e5).trans e7) (((e2.trans e4).trans e6).trans e8))
/-- one operand -/
theorem one {ta : TE} {ma : M RV} (ha : ∀ F G H sd σ Q, SR (wd X) fx F G H sd σ → Po (wd X) fx F G σ Wx (RlE (wd X) fx σ) Q (ma sd) → ta σ H Q)
    {α β : Type} {k : RV → M α} {Rl : Hp → Hp → Hp → List SV → α → β → Prop} {Q : β → Hp → Prop} {T : V → Hp → Prop}
    {F G H : Hp} {sd : List SV} {σ : St} (S : SR (wd X) fx F G H sd σ) (h : Po (wd X) fx F G σ Wx Rl Q ((mBind ma fun ra => k ra) sd))
    (ht : ∀ F' G' H' sd' ra v, Same F F' → Same G G' → SR (wd X) fx F' G' H' sd' σ → RVR (wd X) fx F' G' H' sd' σ ra.keep v → Po (wd X) fx F' G' σ Wx Rl Q (k ra sd') → T v H') :
    ta σ H fun x H1 => T x H1 := by
  refine ha F G H sd σ _ S ?_
  unfold mBind at h
  cases ea : ma sd with
  | fail => rw [ea] at h; exact h
  | exc x sd1 => rw [ea] at h; exact h
  | ok ra sd1 =>
    rw [ea] at h
    intro F1 G1 H1 v e1 e2 S1 r1
    obtain ⟨F2, G2, e3, e4, S2, r2⟩ := r1.keep S1
    exact ht F2 G2 H1 sd1 ra v (e1.trans e3) (e2.trans e4) S2 r2 (h.mono (e1.trans e3) (e2.trans e4))
theorem Po.read {α β : Type} {W : Wd} {F G : Hp} {σ : St} {Rl : Hp → Hp → Hp → List SV → α → β → Prop} {Q : β → Hp → Prop} {rv : RV} {k : D → M α} {sd : List SV} (h : Po W fx F G σ Wx Rl Q ((mBind (mRead rv) k) sd)) : ∃ d, rv.d? sd = some d ∧ Po W fx F G σ Wx Rl Q (k d sd) := by
  unfold mBind mRead at h
  cases e : rv.d? sd with
  | none => rw [e] at h; exact h.elim
  | some d => rw [e] at h; exact ⟨d, rfl, h⟩
theorem Po.get {α β : Type} {W : Wd} {F G : Hp} {σ : St} {Rl : Hp → Hp → Hp → List SV → α → β → Prop} {Q : β → Hp → Prop} {o : Option α} {sd : List SV} (h : Po W fx F G σ Wx Rl Q (mGet o sd)) : ∃ d, o = some d ∧ Po W fx F G σ Wx Rl Q (.ok d sd) := by
  unfold mGet at h
  cases o with
  | none => exact h.elim
  | some d => exact ⟨d, rfl, h⟩
theorem Po.getB {α β γ : Type} {W : Wd} {F G : Hp} {σ : St} {Rl : Hp → Hp → Hp → List SV → α → β → Prop} {Q : β → Hp → Prop} {o : Option γ} {k : γ → M α} {sd : List SV} (h : Po W fx F G σ Wx Rl Q ((mBind (mGet o) k) sd)) : ∃ d, o = some d ∧ Po W fx F G σ Wx Rl Q (k d sd) := by
  unfold mBind mGet at h
  cases o with
  | none => exact h.elim
  | some d => exact ⟨d, rfl, h⟩
theorem se_op {op : Operator} {g : D → D → Option RV} {ma mb : M RV} (ho : OpS fx X (binaryOp op) g) (ha : SE fx X Wx a ma) (hb : SE fx X Wx b mb) : SE fx X Wx (.BinOp a op b pos) (mOp g ma mb) := by
  obtain ⟨r, h1, h2⟩ := ho
  obtain ⟨ta, pa, qa⟩ := ha.ex
  obtain ⟨tb, pb, qb⟩ := hb.ex
  refine ⟨_, pe_op h1 pa pb, fun F G H sd σ Q S h => two qa qb S h fun F1 G1 H1 sd1 ra rb v u e1 e2 S1 r1 r2 h => ?_⟩
  obtain ⟨x, k1, h⟩ := h.read
  obtain ⟨y, k2, h⟩ := h.read
  obtain ⟨rv, k3, h⟩ := h.get
  exact h2 F1 G1 H1 sd1 σ x y v u rv Q S1 (r1.read S1 k1) (r2.read S1 k2) k3 h
theorem se_cmp {op : CmpOp} {g : D → D → Option RV} {ma mb : M RV} (ho : OpS fx X (compareOp op) g) (ha : SE fx X Wx a ma) (hb : SE fx X Wx b mb) (hm : behindInMarks op b = false) : SE fx X Wx (.Compare a [op] [b] pos) (mOp g ma mb) := by
  obtain ⟨r, h1, h2⟩ := ho
  obtain ⟨ta, pa, qa⟩ := ha.ex
  obtain ⟨tb, pb, qb⟩ := hb.ex
  refine ⟨_, pe_cmpR h1 pa pb hm, fun F G H sd σ Q S h => two qa qb S h fun F1 G1 H1 sd1 ra rb v u e1 e2 S1 r1 r2 h => ?_⟩
  obtain ⟨x, k1, h⟩ := h.read
  obtain ⟨y, k2, h⟩ := h.read
  obtain ⟨rv, k3, h⟩ := h.get
  exact h2 F1 G1 H1 sd1 σ x y v u rv Q S1 (r1.read S1 k1) (r2.read S1 k2) k3 h
theorem se_un {op : UnaryOp} {g : D → Option RV} {ma : M RV} (ho : OpS1 fx X (unaryOp op) g) (ha : SE fx X Wx a ma) : SE fx X Wx (.UnaryOp op a pos) (mUn g ma) := by
  obtain ⟨r, h1, h2⟩ := ho
  obtain ⟨ta, pa, qa⟩ := ha.ex
  refine ⟨_, pe_un h1 pa, fun F G H sd σ Q S h => one qa S h fun F1 G1 H1 sd1 ra v e1 e2 S1 r1 h => ?_⟩
  obtain ⟨x, k1, h⟩ := h.read
  obtain ⟨rv, k3, h⟩ := h.get
  exact h2 F1 G1 H1 sd1 σ x v rv Q S1 (r1.read S1 k1) k3 h

/-! ### tests -/
def RV.b? : RV → Option Bool
  | .val (.bl b) => some b
  | _ => none
/-- a comparison as a test -/
def mCmpT (g : D → D → Option RV) (ma mb : M RV) : M Bool := mBind (mOp g ma mb) fun r => mGet r.b?
theorem RVR.bool {W : Wd} {F G H : Hp} {sd : List SV} {σ : St} {rv : RV} {v : V} {k : Bool} (r : RVR W fx F G H sd σ rv v) (h : rv.b? = some k) : v = .bl k := by
  cases rv with
  | val d => cases d <;> first | (cases h; done) | (cases h; exact Rep.bl_inv r)
  | _ => cases h
theorem mBind_assoc {α β γ : Type} (m : M α) (f : α → M β) (g : β → M γ) : mBind (mBind m f) g = mBind m fun a => mBind (f a) g := by
  funext sd
  unfold mBind
  cases m sd <;> rfl
theorem st_cmp {op : CmpOp} {g : D → D → Option RV} {ma mb : M RV} (ho : OpS fx X (compareOp op) g) (ha : SE fx X Wx a ma) (hb : SE fx X Wx b mb) (hm : behindInMarks op b = false) : ST fx X Wx (.Compare a [op] [b] pos) (mCmpT g ma mb) := by
  obtain ⟨r, h1, h2⟩ := ho
  obtain ⟨ta, pa, qa⟩ := ha.ex
  obtain ⟨tb, pb, qb⟩ := hb.ex
  refine ⟨_, pt_cmpR h1 pa pb hm, fun F G H sd σ Q S h => ?_⟩
  unfold mCmpT mOp at h
  simp only [mBind_assoc] at h
  refine two qa qb S h fun F1 G1 H1 sd1 ra rb v u e1 e2 S1 r1 r2 h => ?_
  obtain ⟨x, k1, h⟩ := h.read
  obtain ⟨y, k2, h⟩ := h.read
  obtain ⟨rv, k3, h⟩ := h.getB
  obtain ⟨k, k4, h⟩ := h.get
  exact h2 F1 G1 H1 sd1 σ x y v u rv _ S1 (r1.read S1 k1) (r2.read S1 k2) k3 fun F' G' H' w i1 i2 S' q => ⟨k, RVR.bool q k4, h F' G' H' k i1 i2 S' rfl⟩
/-- a op b op' c -/
def mChain (g g' : D → D → Option RV) (ma mb mc : M RV) : M RV := mBind ma fun ra => mBind mb fun rb => mBind (mRead ra.keep) fun x => mBind (mRead rb.keep) fun y => mBind (mGet (g x y)) fun r => mBind (mGet r.b?) fun k =>
  if k then mBind mc fun rc => mBind (mRead rb.keep) fun y => mBind (mRead rc.keep) fun z => mGet (g' y z) else mPure (.val (.bl false))
theorem chain_in {r r' : R2} {g g' : D → D → Option RV} {ta tb tc : TE} {ma mb mc : M RV}
    (h2 : ∀ F G H sd σ x y v u rv Q, SR (wd X) fx F G H sd σ → Rep (wd X) H x v → Rep (wd X) H y u → g x y = some rv → (∀ F' G' H' w, Same F F' → Same G G' → SR (wd X) fx F' G' H' sd σ → RVR (wd X) fx F' G' H' sd σ rv w → Q w H') → r v u H Q)
    (h2' : ∀ F G H sd σ x y v u rv Q, SR (wd X) fx F G H sd σ → Rep (wd X) H x v → Rep (wd X) H y u → g' x y = some rv → (∀ F' G' H' w, Same F F' → Same G G' → SR (wd X) fx F' G' H' sd σ → RVR (wd X) fx F' G' H' sd σ rv w → Q w H') → r' v u H Q)
    (qa : ∀ F G H sd σ Q, SR (wd X) fx F G H sd σ → Po (wd X) fx F G σ Wx (RlE (wd X) fx σ) Q (ma sd) → ta σ H Q) (qb : ∀ F G H sd σ Q, SR (wd X) fx F G H sd σ → Po (wd X) fx F G σ Wx (RlE (wd X) fx σ) Q (mb sd) → tb σ H Q)
    (qc : ∀ F G H sd σ Q, SR (wd X) fx F G H sd σ → Po (wd X) fx F G σ Wx (RlE (wd X) fx σ) Q (mc sd) → tc σ H Q) {F G H : Hp} {sd : List SV} {σ : St} {Q : VK} (S : SR (wd X) fx F G H sd σ)
    (h : Po (wd X) fx F G σ Wx (RlE (wd X) fx σ) Q (mChain g g' ma mb mc sd)) : tChain r r' ta tb tc σ H Q := by
  refine two qa qb S h fun F1 G1 H1 sd1 ra rb v u e1 e2 S1 r1 r2 h => ?_
  obtain ⟨x, k1, h⟩ := h.read
  obtain ⟨y, k2, h⟩ := h.read
  obtain ⟨rv, k3, h⟩ := h.getB
  obtain ⟨k, k4, h⟩ := h.getB
  refine h2 F1 G1 H1 sd1 σ x y v u rv _ S1 (r1.read S1 k1) (r2.read S1 k2) k3 fun F' G' H' w i1 i2 S' q => ⟨k, RVR.bool q k4, ?_⟩
  cases k with
  | false => exact iteF (h F' G' H' _ i1 i2 S' (.bl false))
  | true =>
    refine iteT ?_
    rw [if_pos rfl] at h
    have h := h.mono i1 i2
    refine one qc S' h fun F3 G3 H3 sd3 rc w' i3 i4 S3 r4 h => ?_
    obtain ⟨y', k5, h⟩ := h.read
    obtain ⟨z, k6, h⟩ := h.read
    obtain ⟨rv', k7, h⟩ := h.get
    exact h2' F3 G3 H3 sd3 σ y' z u w' rv' Q S3 ((RVR.mono (H' := H3) (sd' := sd3) i3 i4 (RVR.mono (H' := H') (sd' := sd1) i1 i2 r2)).read S3 k5) (r4.read S3 k6) k7 h
end
end Av

/-! operations by data: equality, membership, arithmetic, joins -/
namespace Av
open PySem L2

mutual
def toP : D → PyData
  | .non => .none
  | .bl b => .bool b
  | .int i => .int i
  | .str x => .str x
  | .tup xs => .tuple (toPs xs)
  | .lst xs => .list (toPs xs)
  | .dic _ _ => .dict []
  | .obj _ _ => .dict []
  | .fn _ => .dict []
def toPs : List D → List PyData
  | [] => []
  | x :: r => toP x :: toPs r
end
mutual
/-- plain data, nested at most n deep -/
def D.okN : Nat → D → Bool
  | _, .non => true
  | _, .bl _ => true
  | _, .int _ => true
  | _, .str x => PyData.strOk x
  | 0, .tup _ => false
  | n + 1, .tup xs => D.okNs n xs
  | 0, .lst _ => false
  | n + 1, .lst xs => D.okNs n xs
  | _, .dic _ _ => false
  | _, .obj _ _ => false
  | _, .fn _ => false
def D.okNs : Nat → List D → Bool
  | _, [] => true
  | n, x :: r => D.okN n x && D.okNs n r
end
mutual
/-- == -/
def D.eqv : D → D → Bool
  | .non, .non => true
  | .bl a, .bl b => a == b
  | .bl a, .int j => (if a then 1 else 0) == j
  | .int i, .bl b => i == (if b then 1 else 0)
  | .int i, .int j => i == j
  | .str x, .str y => x == y
  | .lst xs, .lst ys => D.eqvs xs ys
  | .tup xs, .tup ys => D.eqvs xs ys
  | _, _ => false
def D.eqvs : List D → List D → Bool
  | [], [] => true
  | x :: xs, y :: ys => D.eqv x y && D.eqvs xs ys
  | _, _ => false
end
mutual
theorem eqv_toP : ∀ (d e : D), PyData.eqv (toP d) (toP e) = D.eqv d e
  | .non, e => by cases e <;> simp [toP, PyData.eqv, D.eqv]
  | .bl b, e => by cases e <;> simp [toP, PyData.eqv, D.eqv]
  | .int b, e => by cases e <;> simp [toP, PyData.eqv, D.eqv]
  | .str b, e => by cases e <;> simp [toP, PyData.eqv, D.eqv]
  | .lst xs, e => by
    cases e <;> simp [toP, PyData.eqv, D.eqv]
    rename_i ys; exact eqvs_toPs xs ys
  | .tup xs, e => by
    cases e <;> simp [toP, PyData.eqv, D.eqv]
    rename_i ys; exact eqvs_toPs xs ys
  | .dic b _, e => by cases e <;> simp [toP, PyData.eqv, D.eqv]
  | .obj b c, e => by cases e <;> simp [toP, PyData.eqv, D.eqv]
  | .fn b, e => by cases e <;> simp [toP, PyData.eqv, D.eqv]
theorem eqvs_toPs : ∀ (d e : List D), PyData.eqvAll (toPs d) (toPs e) = D.eqvs d e
  | [], [] => by simp [toPs, PyData.eqvAll, D.eqvs]
  | [], _ :: _ => by simp [toPs, PyData.eqvAll, D.eqvs]
  | _ :: _, [] => by simp [toPs, PyData.eqvAll, D.eqvs]
  | x :: xs, y :: ys => by simp [toPs, PyData.eqvAll, D.eqvs, eqv_toP x y, eqvs_toPs xs ys]
end
mutual
theorem okN_can : ∀ (d : D) (n : Nat), d.okN n = true → (toP d).canLay0 = true ∧ (toP d).depth ≤ n
  | .non, n, _ => by simp [toP, PyData.canLay0, PyData.depth]
  | .bl b, n, _ => by simp [toP, PyData.canLay0, PyData.depth]
  | .int b, n, _ => by simp [toP, PyData.canLay0, PyData.depth]
  | .str b, n, h => by simpa [toP, PyData.canLay0, PyData.depth, D.okN] using h
  | .lst xs, 0, h => by simp [D.okN] at h
  | .tup xs, 0, h => by simp [D.okN] at h
  | .lst xs, n + 1, h => by
    obtain ⟨h1, h2⟩ := okNs_can xs n (by simpa [D.okN] using h)
    simp [toP, PyData.canLay0, PyData.depth, h1]; omega
  | .tup xs, n + 1, h => by
    obtain ⟨h1, h2⟩ := okNs_can xs n (by simpa [D.okN] using h)
    simp [toP, PyData.canLay0, PyData.depth, h1]; omega
  | .dic b _, n, h => by simp [D.okN] at h
  | .obj b c, n, h => by simp [D.okN] at h
  | .fn b, n, h => by simp [D.okN] at h
theorem okNs_can : ∀ (d : List D) (n : Nat), D.okNs n d = true → PyData.canLayAll0 (toPs d) = true ∧ PyData.depthAll (toPs d) ≤ n
  | [], n, _ => by simp [toPs, PyData.canLayAll0, PyData.depthAll]
  | x :: xs, n, h => by
    simp only [D.okNs, Bool.and_eq_true] at h
    obtain ⟨h1, h2⟩ := okN_can x n h.1
    obtain ⟨h3, h4⟩ := okNs_can xs n h.2
    simp [toPs, PyData.canLayAll0, PyData.depthAll, h1, h3]; omega
end
theorem okN_shaped {d : D} (h : d.okN 64 = true) : SeqAt.shaped (toP d) = true := by
  obtain ⟨h1, h2⟩ := okN_can d 64 h
  unfold SeqAt.shaped
  rw [h1, decide_eq_true h2]; rfl
mutual
theorem Rep.dp {W : Wd} {H : Hp} : ∀ (d : D) (n : Nat) (v : V), d.okN n = true → Rep W H d v → Dp W.K H v (toP d)
  | .non, n, v, _, r => by cases r; exact .non
  | .bl b, n, v, _, r => by cases r; exact .bl b
  | .int b, n, v, _, r => by cases r; exact .int b
  | .str b, n, v, _, r => by cases r; exact .str b
  | .lst xs, 0, v, h, r => by simp [D.okN] at h
  | .tup xs, 0, v, h, r => by simp [D.okN] at h
  | .lst xs, n + 1, v, h, r => by
    obtain ⟨a, vs, rfl, h1, h2⟩ := r.lst_inv
    exact .lst h1 (RepL.dps xs n vs (by simpa [D.okN] using h) h2)
  | .tup xs, n + 1, v, h, r => by
    obtain ⟨a, vs, rfl, h1, h2⟩ := r.tup_inv
    exact .tup h1 (RepL.dps xs n vs (by simpa [D.okN] using h) h2)
  | .dic b _, n, v, h, r => by simp [D.okN] at h
  | .obj b c, n, v, h, r => by simp [D.okN] at h
  | .fn b, n, v, h, r => by simp [D.okN] at h
theorem RepL.dps {W : Wd} {H : Hp} : ∀ (ds : List D) (n : Nat) (vs : List V), D.okNs n ds = true → RepL W H ds vs → DpAll W.K H vs (toPs ds)
  | [], n, vs, _, r => by
    obtain rfl := r.nil_inv
    exact .nil
  | x :: xs, n, vs, h, r => by
    simp only [D.okNs, Bool.and_eq_true] at h
    obtain ⟨v, ws, rfl, h1, h2⟩ := r.cons_inv
    exact .cons (Rep.dp x n v h.1 h1) (RepL.dps xs n ws h.2 h2)
end

section
variable {fx : Fx} {X : Cx}
/-- no object is made: the result is flat -/
theorem out_flat {F G H : Hp} {sd : List SV} {σ : St} {d : D} {v : V} {Q : VK} (S : SR (wd X) fx F G H sd σ) (k : ∀ F' G' H' w, Same F F' → Same G G' → SR (wd X) fx F' G' H' sd σ → RVR (wd X) fx F' G' H' sd σ (.val d) w → Q w H') (r : Rep (wd X) F d v) : Q v H :=
  k F G H v (Same.refl _) (Same.refl _) S r
def gEq (x y : D) : Option RV := if x.okN 64 && y.okN 64 then some (.val (.bl (x.eqv y))) else none
def gNe (x y : D) : Option RV := if x.okN 64 && y.okN 64 then some (.val (.bl (!x.eqv y))) else none
theorem os_eq (hu : X.A.units + 64 < cLine) : OpS fx X (compareOp .Eq) gEq := ⟨_, op_eqD hu, fun F G H sd σ x y v u rv Q S r1 r2 h k => by
  unfold gEq at h
  split at h
  · rename_i hc
    rw [Bool.and_eq_true] at hc
    cases h
    refine ⟨toP x, toP y, r1.dp _ _ _ hc.1, r2.dp _ _ _ hc.2, okN_shaped hc.1, okN_shaped hc.2, ?_⟩
    rw [eqv_toP]
    exact out_flat S k (.bl _)
  · cases h⟩
theorem os_ne (hu : X.A.units + 64 < cLine) : OpS fx X (compareOp .NotEq) gNe := ⟨_, op_neD hu, fun F G H sd σ x y v u rv Q S r1 r2 h k => by
  unfold gNe at h
  split at h
  · rename_i hc
    rw [Bool.and_eq_true] at hc
    cases h
    refine ⟨toP x, toP y, r1.dp _ _ _ hc.1, r2.dp _ _ _ hc.2, okN_shaped hc.1, okN_shaped hc.2, ?_⟩
    rw [eqv_toP]
    exact out_flat S k (.bl _)
  · cases h⟩
theorem OpS.or {f : Value → Value → Sem Value} {g g' : D → D → Option RV} (h : OpS fx X f g) (h' : OpS fx X f g') : OpS fx X f (fun x y => (g x y).or (g' x y)) := by
  obtain ⟨r, h1, h2⟩ := h
  obtain ⟨r', h1', h2'⟩ := h'
  refine ⟨_, h1.or h1', fun F G H sd σ x y v u rv Q S r1 r2 h k => ?_⟩
  have h : (g x y).or (g' x y) = some rv := h
  cases e : g x y with
  | some a => rw [e] at h; cases h; exact .inl (h2 F G H sd σ x y v u _ Q S r1 r2 e k)
  | none => rw [e] at h; exact .inr (h2' F G H sd σ x y v u _ Q S r1 r2 h k)
theorem OpS.imp {f : Value → Value → Sem Value} {g g' : D → D → Option RV} (h : OpS fx X f g) (hg : ∀ x y rv, g' x y = some rv → g x y = some rv) : OpS fx X f g' := by
  obtain ⟨r, h1, h2⟩ := h
  exact ⟨r, h1, fun F G H sd σ x y v u rv Q S r1 r2 h k => h2 F G H sd σ x y v u rv Q S r1 r2 (hg _ _ _ h) k⟩
/-- ints under a condition -/
def gI (C : Int → Int → Bool) (f : Int → Int → D) : D → D → Option RV
  | .int i, .int j => if C i j then some (.val (f i j)) else none
  | _, _ => none
theorem gI_some {C : Int → Int → Bool} {f : Int → Int → D} {x y : D} {rv : RV} (h : gI C f x y = some rv) : ∃ i j, x = .int i ∧ y = .int j ∧ C i j = true ∧ rv = .val (f i j) := by
  unfold gI at h
  split at h
  · rename_i i j
    split at h
    · rename_i c; cases h; exact ⟨i, j, rfl, rfl, c, rfl⟩
    · cases h
  · cases h
theorem os_I {f : Value → Value → Sem Value} {C : Int → Int → Prop} {c : Int → Int → Bool} {g : Int → Int → V} {gd : Int → Int → D} (h : OpR X f (rI C g)) (hc : ∀ i j, c i j = true → C i j) (hg : ∀ F i j, Rep (wd X) F (gd i j) (g i j)) : OpS fx X f (gI c gd) :=
  ⟨_, h, fun F G H sd σ x y v u rv Q S r1 r2 h k => by
    obtain ⟨i, j, rfl, rfl, e, rfl⟩ := gI_some h
    obtain rfl := r1.int_inv
    obtain rfl := r2.int_inv
    exact ⟨i, j, rfl, rfl, hc i j e, out_flat S k (hg F i j)⟩⟩
theorem os_I0 {f : Value → Value → Sem Value} {g : Int → Int → V} {gd : Int → Int → D} (h : OpR X f (rI0 g)) (hg : ∀ F i j, Rep (wd X) F (gd i j) (g i j)) : OpS fx X f (gI (fun _ _ => true) gd) :=
  ⟨_, h, fun F G H sd σ x y v u rv Q S r1 r2 h k => by
    obtain ⟨i, j, rfl, rfl, e, rfl⟩ := gI_some h
    obtain rfl := r1.int_inv
    obtain rfl := r2.int_inv
    exact ⟨i, j, rfl, rfl, out_flat S k (hg F i j)⟩⟩
def gSub := gI (fun _ _ => true) fun i j => .int (i - j)
def gMul := gI (fun i j => decide (i.natAbs < 18446744073709551616) || decide (j.natAbs < 18446744073709551616)) fun i j => .int (i * j)
def gMod := gI (fun _ j => decide (0 < j)) fun i j => .int (i % j)
def gDiv := gI (fun _ j => decide (0 < j) && decide (j < 1073741824)) fun i j => .int (i / j)
def gPow := gI (fun i j => decide (0 ≤ j) && decide (j ≤ 1000) && decide (i.natAbs < 18446744073709551616)) fun i j => .int (i ^ j.toNat)
theorem os_sub : OpS fx X (binaryOp .Sub) gSub := os_I0 op_sub fun _ _ _ => .int _
theorem os_mul : OpS fx X (binaryOp .Mult) gMul := os_I op_mul (fun i j h => by
  rw [Bool.or_eq_true, decide_eq_true_eq, decide_eq_true_eq] at h
  unfold CMul
  have : (2 : Int) ^ 64 = 18446744073709551616 := by decide
  omega) fun _ _ _ => .int _
theorem os_mod : OpS fx X (binaryOp .Mod) gMod := os_I op_mod (fun i j h => of_decide_eq_true h) fun _ _ _ => .int _
theorem os_div : OpS fx X (binaryOp .FloorDiv) gDiv := os_I op_fdiv (fun i j h => by
  rw [Bool.and_eq_true, decide_eq_true_eq, decide_eq_true_eq] at h
  exact h) fun _ _ _ => .int _
theorem os_pow : OpS fx X (binaryOp .Pow) gPow := os_I op_pow (fun i j h => by
  rw [Bool.and_eq_true, Bool.and_eq_true, decide_eq_true_eq, decide_eq_true_eq, decide_eq_true_eq] at h
  have : (2 : Nat) ^ 64 = 18446744073709551616 := by decide
  exact ⟨h.1.1, by omega, by omega⟩) fun _ _ _ => .int _
/-- ints or texts in order -/
def gLt : D → D → Option RV
  | .int i, .int j => some (.val (.bl (decide (i < j))))
  | .str x, .str y => some (.val (.bl (decide (x.cps.toList < y.cps.toList))))
  | _, _ => none
def gLe : D → D → Option RV
  | .int i, .int j => some (.val (.bl (decide (i ≤ j))))
  | .str x, .str y => some (.val (.bl (!decide (y.cps.toList < x.cps.toList))))
  | _, _ => none
def gGt : D → D → Option RV
  | .int i, .int j => some (.val (.bl (decide (j < i))))
  | _, _ => none
def gGe : D → D → Option RV
  | .int i, .int j => some (.val (.bl (decide (j ≤ i))))
  | _, _ => none
end
end Av

/-! more operations; tests; displays; built-ins -/
namespace Av
open PySem L2
section
variable {fx : Fx} {X : Cx} {Wx : WX} {e a b c : Expr} {pos : Pos}
theorem os_lt : OpS fx X (compareOp .Lt) gLt := by
  refine ⟨_, op_lt.or op_lt_str, fun F G H sd σ x y v u rv Q S r1 r2 h k => ?_⟩
  unfold gLt at h
  split at h
  · cases h; obtain rfl := r1.int_inv; obtain rfl := r2.int_inv
    exact .inl ⟨_, _, rfl, rfl, out_flat S k (.bl _)⟩
  · cases h; obtain rfl := r1.str_inv; obtain rfl := r2.str_inv
    exact .inr ⟨_, _, rfl, rfl, out_flat S k (.bl _)⟩
  · cases h
theorem os_le : OpS fx X (compareOp .LtE) gLe := by
  refine ⟨_, op_le.or op_le_str, fun F G H sd σ x y v u rv Q S r1 r2 h k => ?_⟩
  unfold gLe at h
  split at h
  · cases h; obtain rfl := r1.int_inv; obtain rfl := r2.int_inv
    exact .inl ⟨_, _, rfl, rfl, out_flat S k (.bl _)⟩
  · cases h; obtain rfl := r1.str_inv; obtain rfl := r2.str_inv
    exact .inr ⟨_, _, rfl, rfl, out_flat S k (.bl _)⟩
  · cases h
theorem os_gt : OpS fx X (compareOp .Gt) gGt := by
  refine ⟨_, op_gt, fun F G H sd σ x y v u rv Q S r1 r2 h k => ?_⟩
  unfold gGt at h
  split at h
  · cases h; obtain rfl := r1.int_inv; obtain rfl := r2.int_inv
    exact ⟨_, _, rfl, rfl, out_flat S k (.bl _)⟩
  · cases h
theorem os_ge : OpS fx X (compareOp .GtE) gGe := by
  refine ⟨_, op_ge, fun F G H sd σ x y v u rv Q S r1 r2 h k => ?_⟩
  unfold gGe at h
  split at h
  · cases h; obtain rfl := r1.int_inv; obtain rfl := r2.int_inv
    exact ⟨_, _, rfl, rfl, out_flat S k (.bl _)⟩
  · cases h
/-- new objects: the result is told -/
theorem out_newSh {F G H : Hp} {sd : List SV} {σ : St} {ds : List D} {vs : List V} {Q : VK} (S : SR (wd X) fx F G H sd σ) (k : ∀ F' G' H' w, Same F F' → Same G G' → SR (wd X) fx F' G' H' sd σ → RVR (wd X) fx F' G' H' sd σ (.val (.tup ds)) w → Q w H')
    (r : RepL (wd X) F ds vs) {p : Addr} (hp : H p = none) : Q (.ref p) (upd H p (.tup vs)) :=
  k _ _ _ _ (same_upd (S.freeF hp)) (same_upd (S.freeG hp)) (S.newSh hp) ((r.keep (same_upd (S.freeF hp))).tup upd_same)
theorem SR.fresh {W : Wd} {F G H : Hp} {sd : List SV} {σ : St} {p : Addr} {o : HO} {d : D} (S : SR W fx F G H sd σ) (hp : H p = none) (ow : OwnO W F (upd H p o) p d) : RVR W fx F G (upd H p o) sd σ (.fresh d) (.ref p) := by
  refine ⟨p, rfl, S.freeG hp, S.dom p hp, ow, fun i s h1 h2 h3 => ?_, fun o' hm => by rw [(S.held p o' hm).1] at hp; cases hp⟩
  have q := S.slot i s h1
  cases s with
  | own d' => obtain ⟨a, q1, _, _, q4⟩ := q; rw [h3] at q1; cases q1; obtain ⟨u, e, _⟩ := q4.there; rw [hp] at e; cases e
  | io d' => obtain ⟨a, _, q1, _, q4⟩ := q; rw [h3] at q1; cases q1; obtain ⟨u, e, _⟩ := q4.there; rw [hp] at e; cases e
  | _ => cases h2
theorem out_newLst {F G H : Hp} {sd : List SV} {σ : St} {ds : List D} {vs : List V} {Q : VK} (S : SR (wd X) fx F G H sd σ) (k : ∀ F' G' H' w, Same F F' → Same G G' → SR (wd X) fx F' G' H' sd σ → RVR (wd X) fx F' G' H' sd σ (.fresh (.lst ds)) w → Q w H')
    (r : RepL (wd X) F ds vs) {p : Addr} (hp : H p = none) : Q (.ref p) (upd H p (.lst vs)) :=
  k F G _ _ (Same.refl _) (Same.refl _) (S.newOwn hp (fun _ z => by cases z) (fun _ _ z => by cases z)) (S.fresh hp ⟨vs, upd_same, r⟩)
/-- from what is read to what is shared: only flat things and tuples -/
theorem RepL.immF {F G H : Hp} {sd : List SV} {σ : St} {ds : List D} {vs : List V} (S : SR (wd X) fx F G H sd σ) (hi : D.imms ds = true) (r : RepL (wd X) H ds vs) : RepL (wd X) F ds vs :=
  ⟨r.n, fun i d v h1 h2 => (r.r i d v h1 h2).imm S.tup (D.imms_get hi h1)⟩
/-- list + list over all lists that can be read -/
theorem op_catS : OpR X (binaryOp .Add) (fun x y H Q => ∃ l b xs zs, x = .ref l ∧ y = .ref b ∧ SqL X.K H l xs ∧ SqL X.K H b zs ∧ xs.length + zs.length ≤ sizeLine ∧ ∀ p, H p = none → Q (.ref p) (upd H p (.lst (xs ++ zs)))) := by
  intro pins s σ H x y v u Q I rx ry h
  obtain ⟨l, b, xs, zs, rfl, rfl, h1, h2, hz, q⟩ := h
  cases rx
  cases ry
  obtain ⟨its, r1, ⟨⟨cls, dd, data, sl⟩, n, ho, hc, hd, hdt⟩, _⟩ := I.list h1
  obtain ⟨its2, r2, ⟨⟨cls2, dd2, data2, sl2⟩, n2, ho2, hc2, hd2, hdt2⟩, _⟩ := I.list h2
  simp only at hc hd hdt hc2 hd2 hdt2
  subst hc hd hdt hc2 hd2 hdt2
  have e : its.toArray ++ its2.toArray = (its ++ its2).toArray := by simp
  have hl := r1.length
  have hl2 := r2.length
  refine PySem.concat_meets ⟨_, ho, rfl⟩ ⟨_, ho2, rfl⟩ PySem.noFill_list_add PySem.seq_list_add PySem.F.slot_list_add PySem.F.entry_list_add (PySem.F.args_list_add_2 _ _) (PyProof.Rows.list_addW l b its.toArray its2.toArray n n2 _ _ sl sl2 (by simp; omega)) ⟨ho, ho2, ?_⟩
  rw [e]
  exact ⟨.ref _, _, I.lnew (t' := s.toks) (r1.append r2) (by rw [List.length_append]; omega), rfl, q _ I.fresh⟩
def gAdd : D → D → Option RV
  | .int i, .int j => some (.val (.int (i + j)))
  | .str x, .str y => if x.length + y.length ≤ sizeLine then some (.val (.str (x ++ y))) else none
  | .tup xs, .tup ys => if xs.length + ys.length ≤ sizeLine && D.imms xs && D.imms ys then some (.val (.tup (xs ++ ys))) else none
  | .lst xs, .lst ys => if xs.length + ys.length ≤ sizeLine && D.imms xs && D.imms ys then some (.fresh (.lst (xs ++ ys))) else none
  | _, _ => none
theorem os_add : OpS fx X (binaryOp .Add) gAdd := by
  refine ⟨_, ((op_add.or op_add_str).or op_catA).or op_catS, fun F G H sd σ x y v u rv Q S r1 r2 h k => ?_⟩
  unfold gAdd at h
  split at h
  · cases h; obtain rfl := r1.int_inv; obtain rfl := r2.int_inv
    exact .inl (.inl (.inl ⟨_, _, rfl, rfl, out_flat S k (.int _)⟩))
  · split at h
    · rename_i hz
      cases h; obtain rfl := r1.str_inv; obtain rfl := r2.str_inv
      exact .inl (.inl (.inr ⟨_, _, rfl, rfl, hz, out_flat S k (.str _)⟩))
    · cases h
  · split at h
    · rename_i xs ys hz
      rw [Bool.and_eq_true, Bool.and_eq_true, decide_eq_true_eq] at hz
      cases h
      obtain ⟨p, vs, rfl, s1, l1⟩ := r1.tup_inv
      obtain ⟨q, us, rfl, s2, l2⟩ := r2.tup_inv
      have m1 := RepL.immF S hz.1.2 l1
      have m2 := RepL.immF S hz.2 l2
      have i1 := r1.imm S.tup (by rw [D.imm]; exact hz.1.2)
      have i2 := r2.imm S.tup (by rw [D.imm]; exact hz.2)
      refine .inl (.inr ⟨p, q, vs, us, rfl, rfl, s1, s2, by rw [← l1.n, ← l2.n]; exact hz.1.1, fun e => ?_, fun _ e => ?_, fun _ _ w hw => out_newSh S k (m1.append m2) hw⟩)
      · subst e
        have : xs = [] := by have := l1.n; cases xs; rfl; simp at this
        subst this
        exact k F G H _ (Same.refl _) (Same.refl _) S i2
      · subst e
        have : ys = [] := by have := l2.n; cases ys; rfl; simp at this
        subst this
        rw [List.append_nil] at k
        exact k F G H _ (Same.refl _) (Same.refl _) S i1
    · cases h
  · split at h
    · rename_i xs ys hz
      rw [Bool.and_eq_true, Bool.and_eq_true, decide_eq_true_eq] at hz
      cases h
      obtain ⟨p, vs, rfl, s1, l1⟩ := r1.lst_inv
      obtain ⟨q, us, rfl, s2, l2⟩ := r2.lst_inv
      exact .inr ⟨p, q, vs, us, rfl, rfl, s1, s2, by rw [← l1.n, ← l2.n]; exact hz.1.1, fun w hw => out_newLst S k ((RepL.immF S hz.1.2 l1).append (RepL.immF S hz.2 l2)) hw⟩
    · cases h
  · cases h
/-- x in a tuple or a list -/
def gIn (neg : Bool) : D → D → Option RV
  | x, .tup ys => if x.okN 64 && D.okNs 63 ys then some (.val (.bl (neg.xor (ys.any fun y => y.eqv x)))) else none
  | x, .lst ys => if x.okN 64 && D.okNs 63 ys then some (.val (.bl (neg.xor (ys.any fun y => y.eqv x)))) else none
  | _, _ => none
theorem any_toPs (x : D) : ∀ ys : List D, (toPs ys).any (fun z => PyData.eqv z (toP x)) = ys.any fun y => y.eqv x
  | [] => rfl
  | y :: ys => by simp [toPs, List.any_cons, eqv_toP, any_toPs x ys]
theorem in_seqD (neg : Bool) (hu : X.A.units + 65 < cLine) : OpR X (compareOp (if neg then .NotIn else .In)) (fun x y H Q => ∃ d ds, Dp X.K H x d ∧ (Dp X.K H y (.list ds) ∨ Dp X.K H y (.tuple ds)) ∧ SeqAt.shaped d = true ∧ SeqAt.shaped (.list ds) = true ∧ Q (.bl (neg.xor (ds.any fun z => PyData.eqv z d))) H) := by
  intro pins s σ H x y v u Q I rx ry h
  obtain ⟨d, ds, hd, he, sd, se, q⟩ := h
  obtain ⟨as, r1⟩ := Dp.reads I d x v hd rx
  have fin : EP X pins σ Q (.bool (neg.xor (ds.any fun z => PyData.eqv z d))) s := ⟨.bl _, H, I, rfl, q⟩
  have c1 : PyData.canLayAll0 ds = true := SeqAt.canLay_of_shaped se
  have c2 := SeqAt.canLay_of_shaped sd
  have c3 : X.A.units + 1 + min (PyData.depthAll ds) d.depth < cLine := by
    have := SeqAt.depth_of_shaped sd
    omega
  rcases he with he | he
  · obtain ⟨bs, r2⟩ := Dp.reads I (.list ds) y u he ry
    cases neg with
    | true => exact SeqAt.notIn_list_reads r2 r1 c1 c2 c3 (by simpa using fin)
    | false => exact SeqAt.in_list_reads r2 r1 c1 c2 c3 (by simpa using fin)
  · obtain ⟨bs, r2⟩ := Dp.reads I (.tuple ds) y u he ry
    cases neg with
    | true => exact SeqAt.notIn_tuple_reads r2 r1 c1 c2 c3 (by simpa using fin)
    | false => exact SeqAt.in_tuple_reads r2 r1 c1 c2 c3 (by simpa using fin)
theorem os_inN (neg : Bool) (hu : X.A.units + 65 < cLine) : OpS fx X (compareOp (if neg then .NotIn else .In)) (gIn neg) := by
  refine ⟨_, in_seqD neg hu, fun F G H sd σ x y v u rv Q S r1 r2 h k => ?_⟩
  unfold gIn at h
  split at h
  · split at h
    · rename_i ys hc
      rw [Bool.and_eq_true] at hc
      cases h
      refine ⟨toP x, toPs ys, r1.dp _ _ _ hc.1, .inr ?_, okN_shaped hc.1, ?_, ?_⟩
      · exact Rep.dp (.tup ys) 64 u (by simpa [D.okN] using hc.2) r2
      · exact okN_shaped (d := .lst ys) (by simpa [D.okN] using hc.2)
      · rw [any_toPs]
        exact out_flat S k (.bl _)
    · cases h
  · split at h
    · rename_i ys hc
      rw [Bool.and_eq_true] at hc
      cases h
      refine ⟨toP x, toPs ys, r1.dp _ _ _ hc.1, .inl ?_, okN_shaped hc.1, ?_, ?_⟩
      · exact Rep.dp (.lst ys) 64 u (by simpa [D.okN] using hc.2) r2
      · exact okN_shaped (d := .lst ys) (by simpa [D.okN] using hc.2)
      · rw [any_toPs]
        exact out_flat S k (.bl _)
    · cases h
  · cases h
theorem os_in (hu : X.A.units + 65 < cLine) : OpS fx X (compareOp .In) (gIn false) := os_inN false hu
theorem os_notIn (hu : X.A.units + 65 < cLine) : OpS fx X (compareOp .NotIn) (gIn true) := os_inN true hu
end
end Av

/-! tests, displays, built-ins, subscripts, slices -/
namespace Av
open PySem L2
section
variable {fx : Fx} {X : Cx} {Wx : WX} {e a b c : Expr} {pos : Pos}

/-! ### tests -/
def truthD : D → Option Bool
  | .non => some false
  | .bl b => some b
  | .int i => some (i != 0)
  | .str x => if x.length ≤ sizeLine then some ((x.length : Int) != 0) else none
  | .tup xs => some !xs.isEmpty
  | .lst xs => some !xs.isEmpty
  | _ => none
theorem RepL.isEmpty {W : Wd} {H : Hp} {ds : List D} {vs : List V} (r : RepL W H ds vs) : ds.isEmpty = vs.isEmpty := by
  have := r.n
  cases ds <;> cases vs <;> simp_all
theorem truth_ok {W : Wd} {H : Hp} {d : D} {v : V} {k : Bool} (r : Rep W H d v) (h : truthD d = some k) : TruV W.K v H k := by
  unfold truthD at h
  split at h
  · cases h; cases r; rfl
  · cases h; cases r; rfl
  · cases h; cases r; rfl
  · split at h
    · rename_i hz; cases h; cases r; exact ⟨hz, rfl⟩
    · cases h
  · cases h
    obtain ⟨a, vs, rfl, h1, h2⟩ := r.tup_inv
    exact .inr (.inl ⟨vs, h1, by rw [h2.isEmpty]⟩)
  · cases h
    obtain ⟨a, vs, rfl, h1, h2⟩ := r.lst_inv
    exact .inl ⟨vs, h1, by rw [h2.isEmpty]⟩
  · cases h
def mTruth (ma : M RV) : M Bool := mBind ma fun r => mBind (mRead r.keep) fun d => mGet (truthD d)
theorem st_truth {ma : M RV} (ha : SE fx X Wx a ma) (he : ∀ whole, isTrue a X.env whole = (do let v ← whole; standAt a.pos; holding [v] (truthy v)) := by intro _; rfl) : ST fx X Wx a (mTruth ma) := by
  obtain ⟨ta, pa, qa⟩ := ha.ex
  refine ⟨_, pt_truth pa he, fun F G H sd σ Q S h => one qa S h fun F1 G1 H1 sd1 ra v e1 e2 S1 r1 h => ?_⟩
  obtain ⟨x, k1, h⟩ := h.read
  obtain ⟨k, k2, h⟩ := h.get
  exact ⟨k, truth_ok (r1.read S1 k1) k2, h F1 G1 H1 k (Same.refl _) (Same.refl _) S1 rfl⟩
theorem se_chain {op op' : CmpOp} {g g' : D → D → Option RV} {ma mb mc : M RV} (ho : OpS fx X (compareOp op) g) (ho' : OpS fx X (compareOp op') g') (ha : SE fx X Wx a ma) (hb : SE fx X Wx b mb) (hc : SE fx X Wx c mc)
    (hm : lastMarks [op, op'] [b, c] = false := by with_unfolding_all rfl) : SE fx X Wx (.Compare a [op, op'] [b, c] pos) (mChain g g' ma mb mc) := by
  obtain ⟨r, h1, h2⟩ := ho
  obtain ⟨r', h1', h2'⟩ := ho'
  obtain ⟨ta, pa, qa⟩ := ha.ex
  obtain ⟨tb, pb, qb⟩ := hb.ex
  obtain ⟨tc, pc, qc⟩ := hc.ex
  exact ⟨_, pe_chain h1 h1' pa pb pc hm, fun F G H sd σ Q S h => chain_in h2 h2' qa qb qc S h⟩
/-- a Bool out of a result -/
def mB (m : M RV) : M Bool := mBind m fun r => mGet r.b?
theorem Po.toB {W : Wd} {F G : Hp} {σ : St} {Q : Bool → Hp → Prop} {m : M RV} {sd : List SV} (h : Po W fx F G σ Wx RlT Q (mB m sd)) : Po W fx F G σ Wx (RlE W fx σ) (fun x H => ∃ k, x = .bl k ∧ Q k H) (m sd) := by
  unfold mB mBind at h
  cases e : m sd with
  | fail => rw [e] at h; exact h
  | exc x sd1 => rw [e] at h; exact h
  | ok r sd1 =>
    rw [e] at h
    obtain ⟨k, k1, h⟩ := Po.get h
    exact fun F' G' H' b e1 e2 S q => ⟨k, RVR.bool q k1, h F' G' H' k e1 e2 S rfl⟩
theorem st_chain {op op' : CmpOp} {g g' : D → D → Option RV} {ma mb mc : M RV} (ho : OpS fx X (compareOp op) g) (ho' : OpS fx X (compareOp op') g') (ha : SE fx X Wx a ma) (hb : SE fx X Wx b mb) (hc : SE fx X Wx c mc)
    (hm : lastMarks [op, op'] [b, c] = false := by with_unfolding_all rfl) : ST fx X Wx (.Compare a [op, op'] [b, c] pos) (mB (mChain g g' ma mb mc)) := by
  obtain ⟨r, h1, h2⟩ := ho
  obtain ⟨r', h1', h2'⟩ := ho'
  obtain ⟨ta, pa, qa⟩ := ha.ex
  obtain ⟨tb, pb, qb⟩ := hb.ex
  obtain ⟨tc, pc, qc⟩ := hc.ex
  exact ⟨_, pt_chain h1 h1' pa pb pc hm, fun F G H sd σ Q S h => chain_in h2 h2' qa qb qc S h.toB⟩
def mAndT (ma mb : M Bool) : M Bool := mBind ma fun k => if k then mb else mPure false
def mOrT (ma mb : M Bool) : M Bool := mBind ma fun k => if k then mPure true else mb
def mNotT (ma : M Bool) : M Bool := mBind ma fun k => mPure (!k)
theorem SW.st {m : M Bool} (h : SW fx X Wx e m) : ST fx X Wx e m := by
  obtain ⟨t, p, q⟩ := h.ex
  exact ⟨t, p.pt, q⟩
theorem Po.bindB {W : Wd} {F G : Hp} {σ : St} {Q : Bool → Hp → Prop} {ma : M Bool} {k : Bool → M Bool} {sd : List SV} {T : Bool → Hp → Prop} (h : Po W fx F G σ Wx RlT Q (mBind ma k sd))
    (ht : ∀ F' G' H' sd' c, Same F F' → Same G G' → SR W fx F' G' H' sd' σ → Po W fx F' G' σ Wx RlT Q (k c sd') → T c H') : Po W fx F G σ Wx RlT T (ma sd) := by
  unfold mBind at h
  cases e : ma sd with
  | fail => rw [e] at h; exact h
  | exc x sd1 => rw [e] at h; exact h
  | ok r sd1 =>
    rw [e] at h
    intro F' G' H' b e1 e2 S q
    subst q
    exact ht F' G' H' sd1 r e1 e2 S (Po.mono e1 e2 h)
theorem sw_and1 {ma : M Bool} (ha : ST fx X Wx a ma) : SW fx X Wx (.BoolOp .And [a] pos) ma := by
  obtain ⟨t, p, q⟩ := ha.ex
  exact ⟨t, pw_and1 p, q⟩
theorem sw_or1 {ma : M Bool} (ha : ST fx X Wx a ma) : SW fx X Wx (.BoolOp .Or [a] pos) ma := by
  obtain ⟨t, p, q⟩ := ha.ex
  exact ⟨t, pw_or1 p, q⟩
theorem sw_and {rest : List Expr} {ma mb : M Bool} (ha : ST fx X Wx a ma) (hb : SW fx X Wx (.BoolOp .And (b :: rest) pos) mb) : SW fx X Wx (.BoolOp .And (a :: b :: rest) pos) (mAndT ma mb) := by
  obtain ⟨t, p, q⟩ := ha.ex
  obtain ⟨u, p', q'⟩ := hb.ex
  refine ⟨_, pw_and p p', fun F G H sd σ Q S h => q F G H sd σ _ S (Po.bindB h fun F1 G1 H1 sd1 c e1 e2 S1 h => ?_)⟩
  cases c with
  | true => exact iteT (q' F1 G1 H1 sd1 σ Q S1 h)
  | false => exact iteF (h F1 G1 H1 false (Same.refl _) (Same.refl _) S1 rfl)
theorem sw_or {rest : List Expr} {ma mb : M Bool} (ha : ST fx X Wx a ma) (hb : SW fx X Wx (.BoolOp .Or (b :: rest) pos) mb) : SW fx X Wx (.BoolOp .Or (a :: b :: rest) pos) (mOrT ma mb) := by
  obtain ⟨t, p, q⟩ := ha.ex
  obtain ⟨u, p', q'⟩ := hb.ex
  refine ⟨_, pw_or p p', fun F G H sd σ Q S h => q F G H sd σ _ S (Po.bindB h fun F1 G1 H1 sd1 c e1 e2 S1 h => ?_)⟩
  cases c with
  | true => exact iteT (h F1 G1 H1 true (Same.refl _) (Same.refl _) S1 rfl)
  | false => exact iteF (q' F1 G1 H1 sd1 σ Q S1 h)
theorem st_not {ma : M Bool} (ha : ST fx X Wx a ma) : ST fx X Wx (.UnaryOp .Not a pos) (mNotT ma) := by
  obtain ⟨t, p, q⟩ := ha.ex
  refine ⟨_, pt_not p, fun F G H sd σ Q S h => q F G H sd σ _ S (Po.bindB h fun F1 G1 H1 sd1 c e1 e2 S1 h => ?_)⟩
  exact h F1 G1 H1 (!c) (Same.refl _) (Same.refl _) S1 rfl
/-- and, or, not as values: all but the last a Bool -/
def mAndV (ma mb : M RV) : M RV := mBind ma fun r => mBind (mGet r.keep.b?) fun k => if k then mb else mPure (.val (.bl false))
def mOrV (ma mb : M RV) : M RV := mBind ma fun r => mBind (mGet r.keep.b?) fun k => if k then mPure (.val (.bl true)) else mb
def mNotV (ma : M RV) : M RV := mBind ma fun r => mBind (mGet r.keep.b?) fun k => mPure (.val (.bl (!k)))
theorem se_one {op : BoolOp} {ma : M RV} (ha : SE fx X Wx a ma) : SE fx X Wx (.BoolOp op [a] pos) ma := by
  obtain ⟨t, p, q⟩ := ha.ex
  exact ⟨t, pe_one p, q⟩
theorem se_and {rest : List Expr} {ma mb : M RV} (ha : SE fx X Wx a ma) (hb : SE fx X Wx (.BoolOp .And (b :: rest) pos) mb) : SE fx X Wx (.BoolOp .And (a :: b :: rest) pos) (mAndV ma mb) := by
  obtain ⟨t, p, q⟩ := ha.ex
  obtain ⟨u, p', q'⟩ := hb.ex
  refine ⟨_, pe_and p p', fun F G H sd σ Q S h => one q S h fun F1 G1 H1 sd1 ra v e1 e2 S1 r1 h => ?_⟩
  obtain ⟨k, k1, h⟩ := h.getB
  refine ⟨k, RVR.bool r1 k1, ?_⟩
  cases k with
  | true => exact iteT (q' F1 G1 H1 sd1 σ Q S1 h)
  | false => exact iteF (h F1 G1 H1 _ (Same.refl _) (Same.refl _) S1 (.bl false))
theorem se_or {rest : List Expr} {ma mb : M RV} (ha : SE fx X Wx a ma) (hb : SE fx X Wx (.BoolOp .Or (b :: rest) pos) mb) : SE fx X Wx (.BoolOp .Or (a :: b :: rest) pos) (mOrV ma mb) := by
  obtain ⟨t, p, q⟩ := ha.ex
  obtain ⟨u, p', q'⟩ := hb.ex
  refine ⟨_, pe_or p p', fun F G H sd σ Q S h => one q S h fun F1 G1 H1 sd1 ra v e1 e2 S1 r1 h => ?_⟩
  obtain ⟨k, k1, h⟩ := h.getB
  refine ⟨k, RVR.bool r1 k1, ?_⟩
  cases k with
  | true => exact iteT (h F1 G1 H1 _ (Same.refl _) (Same.refl _) S1 (.bl true))
  | false => exact iteF (q' F1 G1 H1 sd1 σ Q S1 h)
theorem se_not {ma : M RV} (ha : SE fx X Wx a ma) : SE fx X Wx (.UnaryOp .Not a pos) (mNotV ma) := by
  obtain ⟨t, p, q⟩ := ha.ex
  refine ⟨_, pe_not p, fun F G H sd σ Q S h => one q S h fun F1 G1 H1 sd1 ra v e1 e2 S1 r1 h => ?_⟩
  obtain ⟨k, k1, h⟩ := h.getB
  exact ⟨k, RVR.bool r1 k1, h F1 G1 H1 _ (Same.refl _) (Same.refl _) S1 (.bl _)⟩
def mIf (mc : M Bool) (ma mb : M RV) : M RV := mBind mc fun k => if k then ma else mb
theorem se_if {mc : M Bool} {ma mb : M RV} (hc : ST fx X Wx c mc) (ha : SE fx X Wx a ma) (hb : SE fx X Wx b mb) : SE fx X Wx (.IfExp c a b pos) (mIf mc ma mb) := by
  obtain ⟨t, p, q⟩ := hc.ex
  obtain ⟨u, p', q'⟩ := ha.ex
  obtain ⟨u2, p2, q2⟩ := hb.ex
  refine ⟨_, pe_ifExp p p' p2, fun F G H sd σ Q S h => q F G H sd σ _ S ?_⟩
  unfold mIf mBind at h
  cases e : mc sd with
  | fail => rw [e] at h; exact h
  | exc x sd1 => rw [e] at h; exact h
  | ok k sd1 =>
    rw [e] at h
    intro F1 G1 H1 b e1 e2 S1 qb
    subst qb
    have h := Po.mono e1 e2 h
    cases k with
    | true => exact iteT (q' F1 G1 H1 sd1 σ Q S1 h)
    | false => exact iteF (q2 F1 G1 H1 sd1 σ Q S1 h)
def D.isNon : D → Bool
  | .non => true
  | _ => false
def mIsN (ma : M RV) : M RV := mBind ma fun r => mBind (mRead r.keep) fun d => mPure (.val (.bl d.isNon))
def mNotN (ma : M RV) : M RV := mBind ma fun r => mBind (mRead r.keep) fun d => mPure (.val (.bl !d.isNon))
theorem Rep.isN {W : Wd} {H : Hp} {d : D} {v : V} (r : Rep W H d v) : decide (v = .non) = d.isNon := by
  cases r <;> simp [D.isNon]
theorem isn_in {ta : TE} {ma : M RV} (qa : ∀ F G H sd σ Q, SR (wd X) fx F G H sd σ → Po (wd X) fx F G σ Wx (RlE (wd X) fx σ) Q (ma sd) → ta σ H Q) {F G H : Hp} {sd : List SV} {σ : St} {Q : VK} (S : SR (wd X) fx F G H sd σ) (h : Po (wd X) fx F G σ Wx (RlE (wd X) fx σ) Q (mIsN ma sd)) : tIsN ta σ H Q := by
  refine one qa S h fun F1 G1 H1 sd1 ra v e1 e2 S1 r1 h => ?_
  obtain ⟨x, k1, h⟩ := h.read
  rw [(r1.read S1 k1).isN]
  exact h F1 G1 H1 _ (Same.refl _) (Same.refl _) S1 (.bl _)
theorem notn_in {ta : TE} {ma : M RV} (qa : ∀ F G H sd σ Q, SR (wd X) fx F G H sd σ → Po (wd X) fx F G σ Wx (RlE (wd X) fx σ) Q (ma sd) → ta σ H Q) {F G H : Hp} {sd : List SV} {σ : St} {Q : VK} (S : SR (wd X) fx F G H sd σ) (h : Po (wd X) fx F G σ Wx (RlE (wd X) fx σ) Q (mNotN ma sd)) : tNotN ta σ H Q := by
  refine one qa S h fun F1 G1 H1 sd1 ra v e1 e2 S1 r1 h => ?_
  obtain ⟨x, k1, h⟩ := h.read
  rw [(r1.read S1 k1).isN]
  exact h F1 G1 H1 _ (Same.refl _) (Same.refl _) S1 (.bl _)
theorem se_isN {ma : M RV} {j pos'} (ha : SE fx X Wx a ma) : SE fx X Wx (.Compare a [.Is] [.Constant .none j pos'] pos) (mIsN ma) := by
  obtain ⟨t, p, q⟩ := ha.ex
  exact ⟨_, pe_cmp (pc_isN p), fun F G H sd σ Q S h => isn_in q S h⟩
theorem se_notN {ma : M RV} {j pos'} (ha : SE fx X Wx a ma) : SE fx X Wx (.Compare a [.IsNot] [.Constant .none j pos'] pos) (mNotN ma) := by
  obtain ⟨t, p, q⟩ := ha.ex
  exact ⟨_, pe_cmp (pc_notN p), fun F G H sd σ Q S h => notn_in q S h⟩
theorem st_isN {ma : M RV} {j pos'} (ha : SE fx X Wx a ma) : ST fx X Wx (.Compare a [.Is] [.Constant .none j pos'] pos) (mB (mIsN ma)) := by
  obtain ⟨t, p, q⟩ := ha.ex
  exact ⟨_, pt_cmp (pc_isN p), fun F G H sd σ Q S h => isn_in q S h.toB⟩
theorem st_notN {ma : M RV} {j pos'} (ha : SE fx X Wx a ma) : ST fx X Wx (.Compare a [.IsNot] [.Constant .none j pos'] pos) (mB (mNotN ma)) := by
  obtain ⟨t, p, q⟩ := ha.ex
  exact ⟨_, pt_cmp (pc_notN p), fun F G H sd σ Q S h => notn_in q S h.toB⟩

/-! ### argument lists -/
def mNil : M (List RV) := mPure []
def mCons (ma : M RV) (mr : M (List RV)) : M (List RV) := mBind ma fun r => mBind mr fun rs => mPure (r.keep :: rs)
theorem sa_nil : SA fx X Wx [] mNil := ⟨_, pa_nil, fun F G H sd σ Q S h => h F G H [] (Same.refl _) (Same.refl _) S ⟨rfl, fun i r v h => by simp at h⟩⟩
theorem RV.keep_keep (r : RV) : r.keep.keep = r.keep := by cases r <;> rfl
theorem sa_cons {es : List Expr} {ma : M RV} {mr : M (List RV)} (ha : SE fx X Wx e ma) (hr : SA fx X Wx es mr) (hs : starEach (e :: es) X.env = (false, eval e X.env) :: starEach es X.env := by rfl) : SA fx X Wx (e :: es) (mCons ma mr) := by
  obtain ⟨t, p, q⟩ := ha.ex
  obtain ⟨u, p', q'⟩ := hr.ex
  refine ⟨_, pa_cons p p' hs, fun F G H sd σ Q S h => one q S h fun F1 G1 H1 sd1 ra v e1 e2 S1 r1 h => q' F1 G1 H1 sd1 σ _ S1 ?_⟩
  unfold mBind at h
  cases e : mr sd1 with
  | fail => rw [e] at h; exact h
  | exc x sd2 => rw [e] at h; exact h
  | ok rs sd2 =>
    rw [e] at h
    intro F2 G2 H2 vs e3 e4 S2 r2
    refine Po.mono e3 e4 h F2 G2 H2 (v :: vs) (Same.refl _) (Same.refl _) S2 ⟨by simp [r2.1], fun i r w h1 h2 => ?_⟩
    cases i with
    | zero =>
      simp at h1 h2
      subst h1 h2
      rw [RV.keep_keep]
      exact r1.mono e3 e4
    | succ i => exact r2.2 i r w (by simpa using h1) (by simpa using h2)
def mReads : List RV → M (List D)
  | [] => mPure []
  | r :: rs => mBind (mRead r.keep) fun d => mBind (mReads rs) fun ds => mPure (d :: ds)
theorem reads_ok {W : Wd} {F G H : Hp} {σ : St} {sd sd' : List SV} (S : SR W fx F G H sd σ) : ∀ {rs : List RV} {vs : List V} {ds : List D}, RVRs W fx F G H sd σ rs vs → mReads rs sd = .ok ds sd' → sd' = sd ∧ RepL W H ds vs
  | [], vs, ds, r, h => by
    have : vs = [] := by have := r.1; cases vs; rfl; simp at this
    subst this
    cases h
    exact ⟨rfl, RepL.nil⟩
  | r :: rs, vs, ds, q, h => by
    cases vs with
    | nil => have := q.1; simp at this
    | cons v vs =>
      unfold mReads mBind mRead at h
      cases e : r.keep.d? sd with
      | none => rw [e] at h; cases h
      | some d =>
        rw [e] at h
        have h : (mReads rs sd).bind (fun ds => mPure (d :: ds)) = .ok ds sd' := h
        cases e2 : mReads rs sd with
        | fail => rw [e2] at h; cases h
        | exc x s => rw [e2] at h; cases h
        | ok ds2 sd2 =>
          rw [e2] at h
          cases h
          obtain ⟨e3, q3⟩ := reads_ok S (rs := rs) (vs := vs) ⟨by have := q.1; simpa using this, fun i r w h1 h2 => q.2 (i + 1) r w (by simpa using h1) (by simpa using h2)⟩ e2
          subst e3
          exact ⟨rfl, RepL.cons (RVR.read S (q.2 0 r v rfl rfl) e) q3⟩
/-- a value that may be stored: own ones become shared -/
def mShare : RV → M D
  | .val d => mPure d
  | .fresh d => mPure d
  | .bval d => fun sd => if d.imm then .ok d sd else .fail
  | .slot i => fun sd => match sd[i]?.getD .no with
    | .own d => .ok d (sd.set i (.sh d))
    | .sh d => .ok d sd
    | _ => .fail
def mShares : List RV → M (List D)
  | [] => mPure []
  | r :: rs => mBind (mShare r) fun d => mBind (mShares rs) fun ds => mPure (d :: ds)
theorem share_ok {W : Wd} {F G H : Hp} {σ : St} {sd sd' : List SV} {r : RV} {v : V} {d : D} (S : SR W fx F G H sd σ) (q : RVR W fx F G H sd σ r.keep v) (h : mShare r sd = .ok d sd') : ∃ F' G', Same F F' ∧ Same G G' ∧ SR W fx F' G' H sd' σ ∧ Rep W F' d v := by
  cases r with
  | val d' => cases h; exact ⟨F, G, Same.refl _, Same.refl _, S, q⟩
  | fresh d' => cases h; exact ⟨F, G, Same.refl _, Same.refl _, S, q⟩
  | bval d' =>
    unfold mShare at h
    dsimp only at h
    split at h
    · rename_i hi
      cases h
      exact ⟨F, G, Same.refl _, Same.refl _, S, Rep.imm S.tup (Rep.keep S.gh q) hi⟩
    · cases h
  | slot i =>
    unfold mShare at h
    dsimp only at h
    have q : σ[i]? = some (some v) := q
    cases e : sd[i]? with
    | none => rw [e] at h; cases h
    | some s =>
      rw [e] at h
      cases s with
      | own d' =>
        cases h
        obtain ⟨F', G', w, e1, e2, S', e3, e4⟩ := S.frzSlot e
        rw [q] at e3; cases e3
        exact ⟨F', G', e1, e2, S', e4⟩
      | sh d' =>
        cases h
        obtain ⟨w, e3, e4⟩ := S.slot i _ e
        rw [q] at e3; cases e3
        exact ⟨F, G, Same.refl _, Same.refl _, S, e4⟩
      | _ => cases h
theorem shares_ok {W : Wd} {H : Hp} {σ : St} : ∀ {rs : List RV} {vs : List V} {ds : List D} {F G : Hp} {sd sd' : List SV}, SR W fx F G H sd σ → RVRs W fx F G H sd σ rs vs → mShares rs sd = .ok ds sd' → ∃ F' G', Same F F' ∧ Same G G' ∧ SR W fx F' G' H sd' σ ∧ RepL W F' ds vs
  | [], vs, ds, F, G, sd, sd', S, r, h => by
    have : vs = [] := by have := r.1; cases vs; rfl; simp at this
    subst this
    cases h
    exact ⟨F, G, Same.refl _, Same.refl _, S, RepL.nil⟩
  | r :: rs, vs, ds, F, G, sd, sd', S, q, h => by
    cases vs with
    | nil => have := q.1; simp at this
    | cons v vs =>
      unfold mShares mBind at h
      cases e : mShare r sd with
      | fail => rw [e] at h; cases h
      | exc x s => rw [e] at h; cases h
      | ok d sd1 =>
        rw [e] at h
        obtain ⟨F1, G1, e1, e2, S1, p1⟩ := share_ok S (q.2 0 r v rfl rfl) e
        have h : (mShares rs sd1).bind (fun ds => mPure (d :: ds)) = .ok ds sd' := h
        cases e3 : mShares rs sd1 with
        | fail => rw [e3] at h; cases h
        | exc x s => rw [e3] at h; cases h
        | ok ds2 sd2 =>
          rw [e3] at h
          cases h
          obtain ⟨F2, G2, e4, e5, S2, p2⟩ := shares_ok (rs := rs) (vs := vs) S1 ⟨by have := q.1; simpa using this, fun i r w h1 h2 => (q.2 (i + 1) r w (by simpa using h1) (by simpa using h2)).mono e1 e2⟩ e3
          exact ⟨F2, G2, e1.trans e4, e2.trans e5, S2, RepL.cons (p1.keep e4) p2⟩
theorem args {ta : TA} {ma : M (List RV)} (ha : ∀ F G H sd σ Q, SR (wd X) fx F G H sd σ → Po (wd X) fx F G σ Wx (fun F G H sd rs vs => RVRs (wd X) fx F G H sd σ rs vs) Q (ma sd) → ta σ H Q)
    {α β : Type} {k : List RV → M α} {Rl : Hp → Hp → Hp → List SV → α → β → Prop} {Q : β → Hp → Prop} {T : List V → Hp → Prop}
    {F G H : Hp} {sd : List SV} {σ : St} (S : SR (wd X) fx F G H sd σ) (h : Po (wd X) fx F G σ Wx Rl Q ((mBind ma fun ra => k ra) sd))
    (ht : ∀ F' G' H' sd' ra vs, Same F F' → Same G G' → SR (wd X) fx F' G' H' sd' σ → RVRs (wd X) fx F' G' H' sd' σ ra vs → Po (wd X) fx F' G' σ Wx Rl Q (k ra sd') → T vs H') :
    ta σ H fun x H1 => T x H1 := by
  refine ha F G H sd σ _ S ?_
  unfold mBind at h
  cases ea : ma sd with
  | fail => rw [ea] at h; exact h
  | exc x sd1 => rw [ea] at h; exact h
  | ok ra sd1 =>
    rw [ea] at h
    intro F1 G1 H1 v e1 e2 S1 r1
    exact ht F1 G1 H1 sd1 ra v e1 e2 S1 r1 (h.mono e1 e2)
theorem Po.shares {W : Wd} {F G H : Hp} {σ : St} {Q : VK} {rs : List RV} {vs : List V} {k : List D → M RV} {sd : List SV} (S : SR W fx F G H sd σ) (q : RVRs W fx F G H sd σ rs vs) (h : Po W fx F G σ Wx (RlE W fx σ) Q ((mBind (mShares rs) k) sd)) :
    ∃ ds sd' F' G', Same F F' ∧ Same G G' ∧ SR W fx F' G' H sd' σ ∧ RepL W F' ds vs ∧ Po W fx F' G' σ Wx (RlE W fx σ) Q (k ds sd') := by
  unfold mBind at h
  cases e : mShares rs sd with
  | fail => rw [e] at h; exact h.elim
  | exc x s =>
    exfalso
    have : ∀ (rs : List RV) (sd : List SV) x s, mShares rs sd ≠ .exc x s := fun rs => by
      induction rs with
      | nil => intro sd x s z; cases z
      | cons r rs ih =>
        intro sd x s z
        unfold mShares mBind at z
        cases e : mShare r sd with
        | fail => rw [e] at z; cases z
        | exc x' s' =>
          unfold mShare at e
          split at e <;> first | (cases e; done) | (split at e <;> cases e)
        | ok d sd1 =>
          rw [e] at z
          have z : (mShares rs sd1).bind (fun ds => mPure (d :: ds)) = .exc x s := z
          cases e2 : mShares rs sd1 with
          | fail => rw [e2] at z; cases z
          | exc x' s' => exact ih _ _ _ e2
          | ok ds s' => rw [e2] at z; cases z
    exact this _ _ _ _ e
  | ok ds sd' =>
    rw [e] at h
    obtain ⟨F', G', e1, e2, S', p⟩ := shares_ok S q e
    exact ⟨ds, sd', F', G', e1, e2, S', p, Po.mono e1 e2 h⟩
def mTup (ma : M (List RV)) : M RV := mBind ma fun rs => mBind (mShares rs) fun ds => if ds.length ≤ sizeLine then mPure (.val (.tup ds)) else mFail
def mLst (ma : M (List RV)) : M RV := mBind ma fun rs => mBind (mShares rs) fun ds => if ds.length ≤ sizeLine then mPure (.fresh (.lst ds)) else mFail
theorem se_tup {x1} {es : List Expr} {ma : M (List RV)} (h : SA fx X Wx es ma) : SE fx X Wx (.Tuple es x1 pos) (mTup ma) := by
  obtain ⟨t, p, q⟩ := h.ex
  refine ⟨_, pe_tup p, fun F G H sd σ Q S h => args q S h fun F1 G1 H1 sd1 rs vs e1 e2 S1 r1 h => ?_⟩
  obtain ⟨ds, sd2, F2, G2, e3, e4, S2, p2, h⟩ := h.shares S1 r1
  split at h
  · rename_i hz
    exact ⟨by rw [← p2.n]; exact hz, fun p hp => out_newSh S2 (fun F' G' H' w => h F' G' H' w) p2 hp⟩
  · exact h.elim
theorem se_lst {es : List Expr} {ma : M (List RV)} (h : SA fx X Wx es ma) : SE fx X Wx (.List es pos) (mLst ma) := by
  obtain ⟨t, p, q⟩ := h.ex
  refine ⟨_, pe_lst p, fun F G H sd σ Q S h => args q S h fun F1 G1 H1 sd1 rs vs e1 e2 S1 r1 h => ?_⟩
  obtain ⟨ds, sd2, F2, G2, e3, e4, S2, p2, h⟩ := h.shares S1 r1
  split at h
  · rename_i hz
    exact ⟨by rw [← p2.n]; exact hz, fun p hp => out_newLst S2 (fun F' G' H' w => h F' G' H' w) p2 hp⟩
  · exact h.elim

/-! ### built-ins -/
def CallS (fx : Fx) (X : Cx) (f : Value) (g : List D → Option RV) : Prop :=
  ∃ r : List V → Hp → VK → Prop, CallR X f r ∧ ∀ F G H sd σ ds vs rv Q, SR (wd X) fx F G H sd σ → RepL (wd X) H ds vs → g ds = some rv →
    (∀ F' G' H' w, Same F F' → Same G G' → SR (wd X) fx F' G' H' sd σ → RVR (wd X) fx F' G' H' sd σ rv w → Q w H') → r vs H Q
def mCallB (g : List D → Option RV) (ma : M (List RV)) : M RV := mBind ma fun rs => mBind (mReads rs) fun ds => mGet (g ds)
theorem Po.reads {W : Wd} {F G H : Hp} {σ : St} {Q : VK} {rs : List RV} {vs : List V} {k : List D → M RV} {sd : List SV} (S : SR W fx F G H sd σ) (q : RVRs W fx F G H sd σ rs vs) (h : Po W fx F G σ Wx (RlE W fx σ) Q ((mBind (mReads rs) k) sd)) :
    ∃ ds, RepL W H ds vs ∧ Po W fx F G σ Wx (RlE W fx σ) Q (k ds sd) := by
  unfold mBind at h
  cases e : mReads rs sd with
  | fail => rw [e] at h; exact h.elim
  | exc x s =>
    exfalso
    have : ∀ (rs : List RV) (sd : List SV) x s, mReads rs sd ≠ .exc x s := fun rs => by
      induction rs with
      | nil => intro sd x s z; cases z
      | cons r rs ih =>
        intro sd x s z
        unfold mReads mBind mRead at z
        cases e : r.keep.d? sd with
        | none => rw [e] at z; cases z
        | some d =>
          rw [e] at z
          have z : (mReads rs sd).bind (fun ds => mPure (d :: ds)) = .exc x s := z
          cases e2 : mReads rs sd with
          | fail => rw [e2] at z; cases z
          | exc x' s' => exact ih _ _ _ e2
          | ok ds s' => rw [e2] at z; cases z
    exact this _ _ _ _ e
  | ok ds sd' =>
    rw [e] at h
    obtain ⟨rfl, p⟩ := reads_ok S q e
    exact ⟨ds, p, h⟩
theorem se_callB {x : Str} {p : Pos} {es : List Expr} {id : String} {g : List D → Option RV} {ma : M (List RV)} (hc : CallS fx X (.builtin id) g) (hg : Gl X x) (hm : X.mg x = none) (hv : bootBuiltins x = some (.builtin id)) (ha : SA fx X Wx (e :: es) ma) (hn : x ≠ "__name__" := by decide) (hdb : (x == ("__debug__" : Str)) = false := by decide)
    (he : starEach (e :: es) X.env = (false, eval e X.env) :: starEach es X.env := by rfl) (hpl : (backTo pos (starEach es X.env)).any (·.1) = false := by rfl) : SE fx X Wx (.Call (.Name x p) (e :: es) [] pos) (mCallB g ma) := by
  obtain ⟨r, h1, h2⟩ := hc
  obtain ⟨t, pa, q⟩ := ha.ex
  refine ⟨_, pe_callB h1 hg hm hv pa hn hdb he hpl, fun F G H sd σ Q S h => args q S h fun F1 G1 H1 sd1 rs vs e1 e2 S1 r1 h => ?_⟩
  obtain ⟨ds, p2, h⟩ := h.reads S1 r1
  obtain ⟨rv, k3, h⟩ := h.get
  exact h2 F1 G1 H1 sd1 σ ds vs rv Q S1 p2 k3 h
theorem se_callTy {x : Str} {p : Pos} {es : List Expr} {T : String} {g : List D → Option RV} {ma : M (List RV)} (hc : CallS fx X (.type T) g) (hg : Gl X x) (hm : X.mg x = none) (hv : bootBuiltins x = some (.type T)) (ha : SA fx X Wx (e :: es) ma) (hn : x ≠ "__name__" := by decide) (hdb : (x == ("__debug__" : Str)) = false := by decide)
    (he : starEach (e :: es) X.env = (false, eval e X.env) :: starEach es X.env := by rfl) (hpl : (backTo pos (starEach es X.env)).any (·.1) = false := by rfl) : SE fx X Wx (.Call (.Name x p) (e :: es) [] pos) (mCallB g ma) := by
  obtain ⟨r, h1, h2⟩ := hc
  obtain ⟨t, pa, q⟩ := ha.ex
  refine ⟨_, pe_callTy h1 hg hm hv pa hn hdb he hpl, fun F G H sd σ Q S h => args q S h fun F1 G1 H1 sd1 rs vs e1 e2 S1 r1 h => ?_⟩
  obtain ⟨ds, p2, h⟩ := h.reads S1 r1
  obtain ⟨rv, k3, h⟩ := h.get
  exact h2 F1 G1 H1 sd1 σ ds vs rv Q S1 p2 k3 h
theorem RepL.one_inv {W : Wd} {H : Hp} {d : D} {vs : List V} (r : RepL W H [d] vs) : ∃ v, vs = [v] ∧ Rep W H d v := by
  obtain ⟨v, ws, rfl, h1, h2⟩ := r.cons_inv
  rw [h2.nil_inv]
  exact ⟨v, rfl, h1⟩
theorem RepL.two_inv {W : Wd} {H : Hp} {d e : D} {vs : List V} (r : RepL W H [d, e] vs) : ∃ v w, vs = [v, w] ∧ Rep W H d v ∧ Rep W H e w := by
  obtain ⟨v, ws, rfl, h1, h2⟩ := r.cons_inv
  obtain ⟨w, rfl, h3⟩ := h2.one_inv
  exact ⟨v, w, rfl, h1, h3⟩
def gLen : List D → Option RV
  | [.str x] => if x.length ≤ sizeLine then some (.val (.int x.length)) else none
  | [.tup xs] => some (.val (.int xs.length))
  | [.lst xs] => some (.val (.int xs.length))
  | _ => none
theorem cs_len : CallS fx X (.builtin "len") gLen := by
  refine ⟨_, call_len, fun F G H sd σ ds vs rv Q S r h k => ?_⟩
  unfold gLen at h
  split at h
  · split at h
    · rename_i hz
      cases h
      obtain ⟨v, rfl, q⟩ := r.one_inv
      obtain rfl := q.str_inv
      exact ⟨_, _, rfl, ⟨hz, rfl⟩, out_flat S k (.int _)⟩
    · cases h
  · cases h
    obtain ⟨v, rfl, q⟩ := r.one_inv
    obtain ⟨p, us, rfl, h1, h2⟩ := q.tup_inv
    exact ⟨_, _, rfl, .inr ⟨us, h1, rfl⟩, by rw [← h2.n]; exact out_flat S k (.int _)⟩
  · cases h
    obtain ⟨v, rfl, q⟩ := r.one_inv
    obtain ⟨p, us, rfl, h1, h2⟩ := q.lst_inv
    exact ⟨_, _, rfl, .inl ⟨us, h1, rfl⟩, by rw [← h2.n]; exact out_flat S k (.int _)⟩
  · cases h
def gAbs : List D → Option RV
  | [.int i] => some (.val (.int (if i < 0 then -i else i)))
  | _ => none
theorem cs_abs : CallS fx X (.builtin "abs") gAbs := by
  refine ⟨_, call_abs, fun F G H sd σ ds vs rv Q S r h k => ?_⟩
  unfold gAbs at h
  split at h
  · cases h
    obtain ⟨v, rfl, q⟩ := r.one_inv
    obtain rfl := q.int_inv
    exact ⟨_, rfl, out_flat S k (.int _)⟩
  · cases h
def gInt : List D → Option RV
  | [.int i] => some (.val (.int i))
  | [.bl k] => some (.val (.int (if k then 1 else 0)))
  | _ => none
theorem cs_int : CallS fx X (.type "int") gInt := by
  refine ⟨_, call_int1, fun F G H sd σ ds vs rv Q S r h k => ?_⟩
  unfold gInt at h
  split at h
  · cases h
    obtain ⟨v, rfl, q⟩ := r.one_inv
    obtain rfl := q.int_inv
    exact .inl ⟨_, rfl, out_flat S k (.int _)⟩
  · cases h
    obtain ⟨v, rfl, q⟩ := r.one_inv
    obtain rfl := q.bl_inv
    exact .inr ⟨_, rfl, out_flat S k (.int _)⟩
  · cases h
def gTuple : List D → Option RV
  | [.tup xs] => if D.imms xs then some (.val (.tup xs)) else none
  | [.lst xs] => if D.imms xs then some (.val (.tup xs)) else none
  | _ => none
theorem cs_tuple : CallS fx X (.type "tuple") gTuple := by
  refine ⟨_, call_tuple_of, fun F G H sd σ ds vs rv Q S r h k => ?_⟩
  unfold gTuple at h
  split at h
  · split at h
    · rename_i hi
      cases h
      obtain ⟨v, rfl, q⟩ := r.one_inv
      have q' := q.imm S.tup (by rw [D.imm]; exact hi)
      obtain ⟨p, us, rfl, h1, h2⟩ := q.tup_inv
      exact ⟨p, us, rfl, .inr ⟨h1, out_flat S k q'⟩⟩
    · cases h
  · split at h
    · rename_i hi
      cases h
      obtain ⟨v, rfl, q⟩ := r.one_inv
      obtain ⟨p, us, rfl, h1, h2⟩ := q.lst_inv
      exact ⟨p, us, rfl, .inl ⟨h1, fun l hl => out_newSh S k (RepL.immF S hi h2) hl⟩⟩
    · cases h
  · cases h
def gList : List D → Option RV
  | [.tup xs] => if D.imms xs then some (.fresh (.lst xs)) else none
  | [.lst xs] => if D.imms xs then some (.fresh (.lst xs)) else none
  | _ => none
theorem cs_list : CallS fx X (.type "list") gList := by
  refine ⟨_, call_list_of, fun F G H sd σ ds vs rv Q S r h k => ?_⟩
  unfold gList at h
  split at h
  · split at h
    · rename_i hi
      cases h
      obtain ⟨v, rfl, q⟩ := r.one_inv
      obtain ⟨p, us, rfl, h1, h2⟩ := q.tup_inv
      exact ⟨p, us, rfl, .inr h1, fun l hl => out_newLst S k (RepL.immF S hi h2) hl⟩
    · cases h
  · split at h
    · rename_i hi
      cases h
      obtain ⟨v, rfl, q⟩ := r.one_inv
      obtain ⟨p, us, rfl, h1, h2⟩ := q.lst_inv
      exact ⟨p, us, rfl, .inl h1, fun l hl => out_newLst S k (RepL.immF S hi h2) hl⟩
    · cases h
  · cases h
end
end Av

/-! isinstance, subscripts, slices, lists' methods -/
namespace Av
open PySem L2
section
variable {fx : Fx} {X : Cx} {Wx : WX} {e a b c : Expr} {pos : Pos}

/-! ### isinstance(x, T), T a built-in class -/
def D.ty : D → Option String
  | .non => some "NoneType"
  | .bl _ => some "bool"
  | .int _ => some "int"
  | .str _ => some "str"
  | .tup _ => some "tuple"
  | .lst _ => some "list"
  | .dic _ _ => some "dict"
  | .obj _ _ => none
  | .fn _ => none
theorem ty_ok {H : Hp} {d : D} {v : V} {t : String} (r : Rep (wd X) H d v) (h : d.ty = some t) : TyX X.K H v (.type t) := by
  cases r with
  | non => cases h; exact .base .non
  | bl b => cases h; exact .base (.bl b)
  | int i => cases h; exact .base (.int i)
  | str x => cases h; exact .base (.str x)
  | tup h1 _ _ =>
    cases h
    exact .base (.tup h1)
  | lst h1 _ _ =>
    cases h
    rcases h1 with (h1 | ⟨o, h1⟩) | ⟨o, its, n, h1, h2, _⟩
    · exact .base (.lst h1)
    · exact .base (.frz h1)
    · exact .kList h1 h2
  | dic h1 _ _ _ => cases h; exact .base (.dK h1)
  | dicT h1 _ _ _ => cases h; exact .base (.dT h1)
  | obj h1 _ _ _ _ => cases h
  | fn g => cases h
/-- the answer by the names of the two types -/
def isaT : String → String → Option Bool
  | "int", t => some (t == "int" || t == "bool")
  | "bool", t => some (t == "bool")
  | "str", t => some (t == "str")
  | "tuple", t => some (t == "tuple")
  | "list", t => some (t == "list")
  | "dict", t => some (t == "dict")
  | _, _ => none
def isaD (T : String) (d : D) : Option Bool := d.ty.bind (isaT T)
theorem isa_kit {T : String} {d : D} {k : Bool} {K : PySem.W.Frag} (h : isaD T d = some k) : ∃ t, d.ty = some t ∧ PySem.W.kitOne K (.type t) (.type T) = some k := by
  unfold isaD at h
  cases e : d.ty with
  | none => rw [e] at h; cases h
  | some t =>
    rw [e] at h
    refine ⟨t, rfl, kit_ty ?_⟩
    have h : isaT T t = some k := h
    have ht : t = "NoneType" ∨ t = "bool" ∨ t = "int" ∨ t = "str" ∨ t = "tuple" ∨ t = "list" ∨ t = "dict" := by
      cases d <;> simp [D.ty] at e <;> simp [← e]
    unfold isaT at h
    split at h
    all_goals first
      | (cases h; done)
      | (cases h
         rcases ht with rfl | rfl | rfl | rfl | rfl | rfl | rfl <;> decide +kernel)
def mIsa (T : String) (ma : M RV) : M RV := mBind ma fun r => mBind (mRead r.keep) fun d => mBind (mGet (isaD T d)) fun k => mPure (.val (.bl k))
theorem se_isa {x y : Str} {p p2 : Pos} {T : String} {ma : M RV} (hg : Gl X x) (hm : X.mg x = none) (hv : bootBuiltins x = some (.builtin "isinstance")) (hg2 : Gl X y) (hm2 : X.mg y = none) (hv2 : bootBuiltins y = some (.type T)) (ha : SE fx X Wx a ma)
    (hn : x ≠ "__name__" := by decide) (hdb : (x == ("__debug__" : Str)) = false := by decide) (hn2 : y ≠ "__name__" := by decide) (hdb2 : (y == ("__debug__" : Str)) = false := by decide)
    (he : starEach [a, .Name y p2] X.env = (false, eval a X.env) :: starEach [.Name y p2] X.env := by rfl) (he2 : starEach [.Name y p2] X.env = (false, eval (.Name y p2) X.env) :: starEach [] X.env := by rfl)
    (hpl : (backTo pos (starEach [.Name y p2] X.env)).any (·.1) = false := by rfl) : SE fx X Wx (.Call (.Name x p) [a, .Name y p2] [] pos) (mIsa T ma) := by
  obtain ⟨t, pa, q⟩ := ha.ex
  refine ⟨_, pe_callB call_isi hg hm hv (pa_cons pa (pa_cons (pe_bltn (v := .ty T) hg2 hm2 hv2 rfl hn2 hdb2) pa_nil he2) he) hn hdb he hpl, fun F G H sd σ Q S h => one q S h fun F1 G1 H1 sd1 ra v e1 e2 S1 r1 h => ?_⟩
  obtain ⟨d, k1, h⟩ := h.read
  obtain ⟨k, k2, h⟩ := h.getB
  obtain ⟨t, h3, h4⟩ := isa_kit (K := X.K) k2
  exact ⟨v, .ty T, .type t, .type T, k, rfl, .ty T, ty_ok (r1.read S1 k1) h3, h4, h F1 G1 H1 _ (Same.refl _) (Same.refl _) S1 (.bl k)⟩

/-! ### subscripts -/
/-- an item of what r stands for -/
def elemOf (sd : List SV) (r : RV) (d : D) : Option RV := match r with
  | .val _ => some (.val d)
  | .fresh _ => some (.val d)
  | .bval _ => some (if d.imm then .val d else .bval d)
  | .slot i => match sd[i]?.getD .no with
    | .own _ => some (.val d)
    | .io _ => some (.val d)
    | _ => none
/-- the items of a list or tuple, by what they may be used for -/
theorem RVR.elems {W : Wd} {F G H : Hp} {sd : List SV} {σ : St} {r : RV} {v : V} {d : D} {xs : List D} (S : SR W fx F G H sd σ) (q : RVR W fx F G H sd σ r.keep v) (h : r.keep.d? sd = some d) (hd : d = .tup xs ∨ d = .lst xs) :
    ∃ a vs, v = .ref a ∧ ((d = .tup xs ∧ SqT W.K H a vs) ∨ (d = .lst xs ∧ SqL W.K H a vs)) ∧ xs.length = vs.length ∧ ∀ (j : Nat) x w rv, xs[j]? = some x → vs[j]? = some w → elemOf sd r.keep x = some rv → RVR W fx F G H sd σ rv w := by
  have sq : ∀ {J : Hp}, Same J H → Rep W J d v → ∃ a vs, v = .ref a ∧ ((d = .tup xs ∧ SqT W.K H a vs) ∨ (d = .lst xs ∧ SqL W.K H a vs)) ∧ RepL W J xs vs := fun {J} s r => by
    rcases hd with rfl | rfl
    · obtain ⟨a, vs, rfl, h1, h2⟩ := r.tup_inv
      exact ⟨a, vs, rfl, .inl ⟨rfl, sqT_keep s h1⟩, h2⟩
    · obtain ⟨a, vs, rfl, h1, h2⟩ := r.lst_inv
      exact ⟨a, vs, rfl, .inr ⟨rfl, s.seq h1⟩, h2⟩
  cases r with
  | val d' =>
    cases h
    obtain ⟨a, vs, h1, h2, h3⟩ := sq S.fh q
    exact ⟨a, vs, h1, h2, h3.n, fun j x w rv e1 e2 e3 => by cases e3; exact h3.r j x w e1 e2⟩
  | fresh d' =>
    cases h
    obtain ⟨a, vs, h1, h2, h3⟩ := sq S.fh q
    exact ⟨a, vs, h1, h2, h3.n, fun j x w rv e1 e2 e3 => by cases e3; exact h3.r j x w e1 e2⟩
  | bval d' =>
    cases h
    obtain ⟨a, vs, h1, h2, h3⟩ := sq S.gh q
    refine ⟨a, vs, h1, h2, h3.n, fun j x w rv e1 e2 e3 => ?_⟩
    have r := h3.r j x w e1 e2
    cases e3
    split
    · rename_i hi; exact Rep.imm S.tup (r.keep S.gh) hi
    · exact r
  | slot i =>
    have q : σ[i]? = some (some v) := q
    have rd := RVR.read (rv := .slot i) S q h
    have h : (sd[i]?.getD .no).d? = some d := h
    cases e : sd[i]? with
    | none => rw [e] at h; cases h
    | some s =>
      rw [e] at h
      cases s with
      | own d' =>
        cases h
        obtain ⟨a, h1, h2, h3, h4⟩ := S.slot i _ e
        rw [q] at h1; cases h1
        have hl : d = .lst xs := by
          rcases hd with rfl | rfl
          · exact h4.elim
          · rfl
        subst hl
        obtain ⟨vs, h5, h6⟩ := h4
        exact ⟨a, vs, rfl, .inr ⟨rfl, SqL.of h5⟩, h6.n, fun j x w rv e1 e2 e3 => by
          unfold RV.keep elemOf at e3
          dsimp only at e3
          rw [e] at e3
          cases e3
          exact h6.r j x w e1 e2⟩
      | io d' =>
        cases h
        obtain ⟨a, _, h1, h2, h4⟩ := S.slot i _ e
        rw [q] at h1; cases h1
        have hl : d = .lst xs := by
          rcases hd with rfl | rfl
          · exact h4.elim
          · rfl
        subst hl
        obtain ⟨vs, h5, h6⟩ := h4
        exact ⟨a, vs, rfl, .inr ⟨rfl, SqL.of h5⟩, h6.n, fun j x w rv e1 e2 e3 => by
          unfold RV.keep elemOf at e3
          dsimp only at e3
          rw [e] at e3
          cases e3
          exact h6.r j x w e1 e2⟩
      | sh d' =>
        obtain ⟨a, vs, h1, h2, h3⟩ := sq (Same.refl _) rd
        exact ⟨a, vs, h1, h2, h3.n, fun j x w rv e1 e2 e3 => by
          unfold RV.keep elemOf at e3
          dsimp only at e3
          rw [e] at e3
          cases e3⟩
      | bor d' =>
        obtain ⟨a, vs, h1, h2, h3⟩ := sq (Same.refl _) rd
        exact ⟨a, vs, h1, h2, h3.n, fun j x w rv e1 e2 e3 => by
          unfold RV.keep elemOf at e3
          dsimp only at e3
          rw [e] at e3
          cases e3⟩
      | no => cases h
      | exn => cases h
def gIx (sd : List SV) (r : RV) : D → D → Option RV
  | .tup xs, .int i => (atI xs i).bind (elemOf sd r)
  | .lst xs, .int i => (atI xs i).bind (elemOf sd r)
  | .str z, .int i => if z.length ≤ sizeLine then (atI z.cps.toList i).map fun c => .val (.str ⟨#[c]⟩) else none
  | _, _ => none
def mIx (ma mb : M RV) : M RV := mBind ma fun ra => mBind mb fun rb => mBind (mRead ra.keep) fun x => mBind (mRead rb.keep) fun y => fun sd => mGet (gIx sd ra.keep x y) sd
theorem atI_both {α β : Type} {xs : List α} {ys : List β} {i : Int} {x : α} (hl : xs.length = ys.length) (h : atI xs i = some x) : ∃ (j : Nat) (y : β), xs[j]? = some x ∧ ys[j]? = some y ∧ atI ys i = some y := by
  unfold atI at h ⊢
  rw [← hl]
  cases e : ixN xs.length i with
  | none => rw [e] at h; cases h
  | some j =>
    rw [e] at h
    have h : xs[j]? = some x := h
    have hj : j < ys.length := by rw [← hl]; exact (List.getElem?_eq_some_iff.mp h).1
    exact ⟨j, ys[j], h, List.getElem?_eq_getElem hj, List.getElem?_eq_getElem hj⟩
theorem se_ix {ma mb : M RV} (ha : SE fx X Wx a ma) (hb : SE fx X Wx b mb) (hs : PlainIx b := by intro _ _; rfl) : SE fx X Wx (.Subscript a b pos) (mIx ma mb) := by
  obtain ⟨ta, pa, qa⟩ := ha.ex
  obtain ⟨tb, pb, qb⟩ := hb.ex
  refine ⟨_, pe_ix ix_seq pa pb hs, fun F G H sd σ Q S h => two qa qb S h fun F1 G1 H1 sd1 ra rb v u e1 e2 S1 r1 r2 h => ?_⟩
  obtain ⟨x, k1, h⟩ := h.read
  obtain ⟨y, k2, h⟩ := h.read
  have hy := r2.read S1 k2
  obtain ⟨rv, k3, hk⟩ := h.get
  clear h
  unfold gIx at k3
  split at k3
  · rename_i xs i
    obtain rfl := hy.int_inv
    obtain ⟨p, vs, rfl, h2, hl, h3⟩ := r1.elems S1 k1 (.inl rfl)
    cases e : atI xs i with
    | none => rw [e] at k3; cases k3
    | some d =>
      rw [e] at k3
      obtain ⟨j, w, j1, j2, j3⟩ := atI_both hl e
      have hT : SqT X.K H1 p vs := by
        rcases h2 with ⟨_, h2⟩ | ⟨z, _⟩
        · exact h2
        · cases z
      exact .inr (.inl ⟨p, vs, i, w, rfl, rfl, hT, j3, hk F1 G1 H1 w (Same.refl _) (Same.refl _) S1 (h3 j d w rv j1 j2 k3)⟩)
  · rename_i xs i
    obtain rfl := hy.int_inv
    obtain ⟨p, vs, rfl, h2, hl, h3⟩ := r1.elems S1 k1 (.inr rfl)
    cases e : atI xs i with
    | none => rw [e] at k3; cases k3
    | some d =>
      rw [e] at k3
      obtain ⟨j, w, j1, j2, j3⟩ := atI_both hl e
      have hT : SqL X.K H1 p vs := by
        rcases h2 with ⟨z, _⟩ | ⟨_, h2⟩
        · cases z
        · exact h2
      exact .inl ⟨p, vs, i, w, rfl, rfl, hT, j3, hk F1 G1 H1 w (Same.refl _) (Same.refl _) S1 (h3 j d w rv j1 j2 k3)⟩
  · split at k3
    · rename_i z i hz
      obtain rfl := hy.int_inv
      obtain rfl := (r1.read S1 k1).str_inv
      cases e : atI z.cps.toList i with
      | none => rw [e] at k3; cases k3
      | some d =>
        rw [e] at k3
        cases k3
        exact .inr (.inr ⟨z, i, d, rfl, rfl, hz, e, hk F1 G1 H1 _ (Same.refl _) (Same.refl _) S1 (.str _)⟩)
    · cases k3
  · cases k3

/-! ### slices -/
structure SO (fx : Fx) (X : Cx) (Wx : WX) (e : Option Expr) (m : M (Option Int)) : Prop where
  ex : ∃ t, PO X e t ∧ ∀ F G H sd σ Q, SR (wd X) fx F G H sd σ → Po (wd X) fx F G σ Wx (fun _ _ _ _ (r v : Option Int) => r = v) Q (m sd) → t σ H Q
theorem Po.bindV {α γ δ : Type} {W : Wd} {F G : Hp} {σ : St} {Rl : Hp → Hp → Hp → List SV → γ → δ → Prop} {Q : δ → Hp → Prop} {ma : M α} {k : α → M γ} {sd : List SV} {T : α → Hp → Prop} (h : Po W fx F G σ Wx Rl Q (mBind ma k sd))
    (ht : ∀ F' G' H' sd' c, Same F F' → Same G G' → SR W fx F' G' H' sd' σ → Po W fx F' G' σ Wx Rl Q (k c sd') → T c H') : Po W fx F G σ Wx (fun _ _ _ _ (r v : α) => r = v) T (ma sd) := by
  unfold mBind at h
  cases e : ma sd with
  | fail => rw [e] at h; exact h
  | exc x sd1 => rw [e] at h; exact h
  | ok r sd1 =>
    rw [e] at h
    intro F' G' H' b e1 e2 S q
    subst q
    exact ht F' G' H' sd1 r e1 e2 S (Po.mono e1 e2 h)
def mNoPart : M (Option Int) := mPure none
def D.int? : D → Option Int
  | .int i => some i
  | _ => none
def mPart (ma : M RV) : M (Option Int) := mBind ma fun r => mBind (mRead r.keep) fun d => mBind (mGet d.int?) fun i => mPure (some i)
theorem so_none : SO fx X Wx none mNoPart := ⟨_, po_none, fun F G H sd σ Q S h => h F G H _ (Same.refl _) (Same.refl _) S rfl⟩
theorem so_some {ma : M RV} (ha : SE fx X Wx e ma) : SO fx X Wx (some e) (mPart ma) := by
  obtain ⟨t, p, q⟩ := ha.ex
  refine ⟨_, po_some p, fun F G H sd σ Q S h => one q S h fun F1 G1 H1 sd1 ra v e1 e2 S1 r1 h => ?_⟩
  obtain ⟨d, k1, h⟩ := h.read
  obtain ⟨i, k2, h⟩ := h.getB
  have r := r1.read S1 k1
  cases d <;> simp [D.int?] at k2
  subst k2
  obtain rfl := r.int_inv
  exact ⟨_, rfl, h F1 G1 H1 _ (Same.refl _) (Same.refl _) S1 rfl⟩
def cutD {α : Type} (xs : List α) (lo hi : Option Int) : List α := (xs.drop (HT.sIx xs.length 0 lo)).take (HT.sIx xs.length xs.length hi - HT.sIx xs.length 0 lo)
theorem RepL.cut {W : Wd} {H : Hp} {ds : List D} {vs : List V} (r : RepL W H ds vs) (lo hi : Option Int) : RepL W H (cutD ds lo hi) (cutV vs lo hi) := by
  unfold cutD cutV
  rw [r.n]
  exact (r.drop _).take _
def gSl (x : D) (lo hi : Option Int) : Option RV := match x with
  | .tup xs => if D.imms xs then some (.val (.tup (cutD xs lo hi))) else none
  | .lst xs => if D.imms xs then some (.fresh (.lst (cutD xs lo hi))) else none
  | .str z => if z.length ≤ sizeLine then some (.val (.str (cutS z lo hi))) else none
  | _ => none
def mSl (ma : M RV) (ml mh : M (Option Int)) : M RV := mBind ma fun ra => mBind ml fun lo => mBind mh fun hi => mBind (mRead ra.keep) fun x => mGet (gSl x lo hi)
theorem cutD_whole {α : Type} {xs : List α} {lo hi : Option Int} (h : HT.sIx xs.length 0 lo = 0 ∧ HT.sIx xs.length xs.length hi = xs.length) : cutD xs lo hi = xs := by
  unfold cutD
  rw [h.1, h.2]
  simp
theorem imms_mono {ds : List D} (h : ∀ d ∈ ds, d.imm = true) : D.imms ds = true := by
  induction ds with
  | nil => rfl
  | cons x r ih => rw [D.imms, h x List.mem_cons_self, ih fun d hd => h d (List.mem_cons_of_mem _ hd)]; rfl
theorem imms_mem {ds : List D} (h : D.imms ds = true) : ∀ d ∈ ds, d.imm = true := fun d hd => by
  obtain ⟨i, hi⟩ := List.getElem?_of_mem hd
  exact D.imms_get h hi
theorem imms_cut {ds : List D} (h : D.imms ds = true) (lo hi : Option Int) : D.imms (cutD ds lo hi) = true :=
  imms_mono fun d hd => imms_mem h d (List.mem_of_mem_drop (List.mem_of_mem_take hd))
theorem se_slice {lo hi : Option Expr} {p2 : Pos} {ma : M RV} {ml mh : M (Option Int)} (ha : SE fx X Wx a ma) (hl : SO fx X Wx lo ml) (hh : SO fx X Wx hi mh) : SE fx X Wx (.Subscript a (.Slice lo hi none p2) pos) (mSl ma ml mh) := by
  obtain ⟨ta, pa, qa⟩ := ha.ex
  obtain ⟨tl, pl, ql⟩ := hl.ex
  obtain ⟨th, ph, qh⟩ := hh.ex
  refine ⟨_, pe_slice ((sl_str.or sl_tupA).or sl_list) pa pl ph, fun F G H sd σ Q S h => one qa S h fun F1 G1 H1 sd1 ra v e1 e2 S1 r1 h => ql F1 G1 H1 sd1 σ _ S1 (Po.bindV h fun F2 G2 H2 sd2 l e3 e4 S2 h => qh F2 G2 H2 sd2 σ _ S2 (Po.bindV h fun F3 G3 H3 sd3 u e5 e6 S3 h => ?_))⟩
  obtain ⟨x, k1, h⟩ := h.read
  obtain ⟨rv, k2, h⟩ := h.get
  have r := ((r1.mono (H' := H2) (sd' := sd2) e3 e4).mono (rv := ra) (H' := H3) (sd' := sd3) e5 e6).read S3 k1
  unfold gSl at k2
  split at k2
  · split at k2
    · rename_i xs hi'
      cases k2
      have ri := r.imm S3.tup (by rw [D.imm]; exact hi')
      obtain ⟨p, vs, rfl, h1, h2⟩ := r.tup_inv
      refine .inl (.inr ⟨p, vs, rfl, h1, fun hw => ?_, fun _ q hq => ?_⟩)
      · rw [← h2.n] at hw
        have ec := cutD_whole hw
        exact h F3 G3 H3 _ (Same.refl _) (Same.refl _) S3 (by rw [ec]; exact ri)
      · exact out_newSh S3 (fun F' G' H' w => h F' G' H' w) ((RepL.immF S3 hi' h2).cut l u) hq
    · cases k2
  · split at k2
    · rename_i xs hi'
      cases k2
      obtain ⟨p, vs, rfl, h1, h2⟩ := r.lst_inv
      exact .inr ⟨p, vs, rfl, h1, fun q hq => out_newLst S3 (fun F' G' H' w => h F' G' H' w) ((RepL.immF S3 hi' h2).cut l u) hq⟩
    · cases k2
  · split at k2
    · rename_i z hz
      cases k2
      obtain rfl := r.str_inv
      exact .inl (.inl ⟨z, rfl, hz, h F3 G3 H3 _ (Same.refl _) (Same.refl _) S3 (.str _)⟩)
    · cases k2
  · cases k2
end
end Av

/-! own lists changed; statements, targets, loops -/
namespace Av
open PySem L2
section
variable {fx : Fx} {X : Cx} {Wx : WX} {e a b c : Expr} {pos : Pos}

/-! ### an own object is changed -/
theorem SR.mutate {W : Wd} {F G H : Hp} {sd : List SV} {σ : St} {i : Nat} {s s' : SV} {p : Addr} {o : HO} {d' : D} (S : SR W fx F G H sd σ) (hi : sd[i]? = some s) (hp : σ[i]? = some (some (.ref p))) (hs : (∃ d, s = .own d ∧ s' = .own d') ∨ (∃ d, s = .io d ∧ s' = .io d'))
    (ho : OwnO W F (upd H p o) p d') : SR W fx F G (upd H p o) (sd.set i s') σ := by
  have q := S.slot i s hi
  have hil : i < sd.length := (List.getElem?_eq_some_iff.mp hi).1
  have base : G p = none ∧ (∃ u, H p = some u ∧ ∀ xs, ¬ Rd H p (.tup xs)) ∧ s.mine = true ∧ s'.mine = true := by
    rcases hs with ⟨d, rfl, rfl⟩ | ⟨d, rfl, rfl⟩
    · obtain ⟨a, h1, h2, h3, h4⟩ := q
      rw [hp] at h1; cases h1
      exact ⟨h2, h4.there, rfl, rfl⟩
    · obtain ⟨a, h0, h1, h2, h4⟩ := q
      rw [hp] at h1; cases h1
      exact ⟨h2, h4.there, rfl, rfl⟩
  obtain ⟨hG, ⟨u, hu, hnt⟩, hm, hmm⟩ := base
  have nt : ∀ xs, ¬ Rd (upd H p o) p (.tup xs) := fun xs r => by
    obtain ⟨o', h5, h6⟩ := ho.there
    exact h6 xs r
  have nh : ∀ b v, (b, v) ∈ fx.hold → b ≠ p := fun b v hm z => by subst z; exact S.free b v hm i s hi ‹s.mine = true› hp
  refine ⟨⟨S.ff, S.fn, S.gg, S.gn, S.fg, fun b v e => ?_, fun b e => ?_, fun b xs r => ?_, fun b v hm0 => by
      obtain ⟨h1, h2, h3⟩ := S.held b v hm0
      exact ⟨by rw [upd_ne (nh b v hm0)]; exact h1, h2, h3⟩⟩, by rw [List.length_set]; exact S.len, fun j t e => ?_, fun j k t t' b e1 e2 m1 m2 p1 p2 => ?_, fun b v hm0 j t e m => ?_⟩
  · rw [upd_ne (ne_of_none e hG)]; exact S.gh b v e
  · by_cases hb : b = p
    · subst hb; rw [upd_same] at e; cases e
    · rw [upd_ne hb] at e; exact S.dom b e
  · by_cases hb : b = p
    · subst hb; exact absurd r (nt xs)
    · rw [upd_ne hb]
      exact S.tup b xs (by
        rcases r with r | ⟨ob, r⟩
        · rw [upd_ne hb] at r; exact .inl r
        · rw [upd_ne hb] at r; exact .inr ⟨ob, r⟩)
  · rw [List.getElem?_set] at e
    by_cases hj : i = j
    · subst hj
      rw [if_pos rfl, if_pos hil] at e
      cases e
      rcases hs with ⟨d, rfl, rfl⟩ | ⟨d, rfl, rfl⟩
      · obtain ⟨a, h1, h2, h3, h4⟩ := q
        rw [hp] at h1; cases h1
        exact ⟨p, hp, hG, h3, ho⟩
      · obtain ⟨a, h0, h1, h2, h4⟩ := q
        rw [hp] at h1; cases h1
        exact ⟨p, h0, hp, hG, ho⟩
    · rw [if_neg hj] at e
      refine (S.slot j t e).keep (Same.refl _) (Same.refl _) fun b p1 m p2 _ => ⟨upd_ne fun z => ?_, p2⟩
      subst z
      exact hj (S.apart i j _ _ _ hi e hm m hp p1)
  · have cvt : ∀ {j : Nat} {t : SV}, (sd.set i s')[j]? = some t → t.mine = true → ∃ t0, sd[j]? = some t0 ∧ t0.mine = true := fun {j t} e m => by
      rw [List.getElem?_set] at e
      by_cases hj : i = j
      · subst hj; exact ⟨s, hi, hm⟩
      · rw [if_neg hj] at e; exact ⟨t, e, m⟩
    obtain ⟨t0, e1', m1'⟩ := cvt e1 m1
    obtain ⟨t1, e2', m2'⟩ := cvt e2 m2
    exact S.apart j k t0 t1 b e1' e2' m1' m2' p1 p2
  · rw [List.getElem?_set] at e
    by_cases hj : i = j
    · subst hj
      exact S.free b v hm0 i s hi hm
    · rw [if_neg hj] at e; exact S.free b v hm0 j t e m
def mOwn (i : Nat) : M D := fun sd => match sd[i]?.getD .no with
  | .own d => .ok d sd
  | .io d => .ok d sd
  | _ => .fail
def mPutOwn (i : Nat) (d : D) : M Unit := fun sd => match sd[i]?.getD .no with
  | .own _ => .ok () (sd.set i (.own d))
  | .io _ => .ok () (sd.set i (.io d))
  | _ => .fail
theorem Po.own {α β : Type} {W : Wd} {F G H : Hp} {σ : St} {Rl : Hp → Hp → Hp → List SV → α → β → Prop} {Q : β → Hp → Prop} {i : Nat} {k : D → M α} {sd : List SV} (S : SR W fx F G H sd σ) (h : Po W fx F G σ Wx Rl Q ((mBind (mOwn i) k) sd)) :
    ∃ d s p, sd[i]? = some s ∧ (s = .own d ∨ s = .io d) ∧ σ[i]? = some (some (.ref p)) ∧ OwnO W F H p d ∧ G p = none ∧ Po W fx F G σ Wx Rl Q (k d sd) := by
  unfold mBind mOwn at h
  cases e : sd[i]? with
  | none => rw [e] at h; exact h.elim
  | some s =>
    rw [e] at h
    have q := S.slot i s e
    cases s with
    | own d => obtain ⟨p, k1, k2, _, k4⟩ := q; exact ⟨d, _, p, rfl, .inl rfl, k1, k4, k2, h⟩
    | io d => obtain ⟨p, _, k1, k2, k4⟩ := q; exact ⟨d, _, p, rfl, .inr rfl, k1, k4, k2, h⟩
    | no => exact h.elim
    | exn => exact h.elim
    | sh d => exact h.elim
    | bor d => exact h.elim
/-- the new content is stored -/
theorem Po.putOwn {α β : Type} {W : Wd} {F G H : Hp} {σ : St} {Rl : Hp → Hp → Hp → List SV → α → β → Prop} {Q : β → Hp → Prop} {i : Nat} {k : Unit → M α} {sd : List SV} {s : SV} {d d' : D} {p : Addr} (S : SR W fx F G H sd σ) (e : sd[i]? = some s) (hs : s = .own d ∨ s = .io d) (hp : σ[i]? = some (some (.ref p)))
    (h : Po W fx F G σ Wx Rl Q ((mBind (mPutOwn i d') k) sd)) : ∃ sd', (∀ o, OwnO W F (upd H p o) p d' → SR W fx F G (upd H p o) sd' σ) ∧ Po W fx F G σ Wx Rl Q (k () sd') := by
  unfold mBind mPutOwn at h
  rw [e] at h
  rcases hs with rfl | rfl
  · exact ⟨_, fun o ow => S.mutate e hp (.inl ⟨_, rfl, rfl⟩) ow, h⟩
  · exact ⟨_, fun o ow => S.mutate e hp (.inr ⟨_, rfl, rfl⟩) ow, h⟩
/-- a method that changes the own object in a slot. kd: its kind; g: the new content and the answer -/
structure MutS (X : Cx) (id T : String) (kd : D → Bool) (g : D → List D → Option (D × D)) (r : V → List V → Hp → VK → Prop) : Prop where
  mt : MtR X id r
  ty : ∀ F H p x, OwnO (wd X) F H p x → kd x = true → tyV X.K T (.ref p) H
  go : ∀ F H p x ds vs x' d (Q : VK), Same F H → F p = none → OwnO (wd X) F H p x → RepL (wd X) F ds vs → g x ds = some (x', d) →
    (∀ o w, OwnO (wd X) F (upd H p o) p x' → Rep (wd X) F d w → Q w (upd H p o)) → r (.ref p) vs H Q
def mMut (kd : D → Bool) (g : D → List D → Option (D × D)) (i : Nat) (ma : M (List RV)) : M RV := mBind (mOwn i) fun x0 => if kd x0 then mBind ma fun rs => mBind (mShares rs) fun ds => mBind (mOwn i) fun x => mBind (mGet (g x ds)) fun y => mBind (mPutOwn i y.1) fun _ => mPure (.val y.2) else mFail
theorem se_mut {i : Nat} {x name : Str} {p1 apos : Pos} {id T : String} {es : List Expr} {kd : D → Bool} {g : D → List D → Option (D × D)} {r : V → List V → Hp → VK → Prop} {ma : M (List RV)} (pa : PlainAttrs T) (slot : Slot T name id) (hty : typeOf (.builtin id) = pure (.type "method_descriptor")) (hm : MutS X id T kd g r)
    (hN : X.N[i]? = some x) (hv : Vis X.env.scope x) (ha : SA fx X Wx (e :: es) ma)
    (hd : (x == ("__debug__" : Str)) = false := by decide) (hcd : (x == ("__classdict__" : Str)) = false := by decide)
    (hbase : attributeBase (.Name x p1) name X.env (eval (.Name x p1) X.env) = eval (.Name x p1) X.env := by rfl)
    (hfew : ((backTo pos (starEach (e :: es) X.env)).all (fun x => !x.1) && (backToKw pos (keywordEach [] X.env)).all (fun x => x.1.isSome)
      && decide ((e :: es).length + ([] : List Keyword).length + (if ([] : List Keyword).isEmpty then 0 else 1) < 30)) = true := by rfl)
    (hline : (apos.endLine == pos.line) = true := by rfl) (hs : starEach (e :: es) X.env = (false, eval e X.env) :: starEach es X.env := by rfl) (hplain : (backTo pos (starEach es X.env)).any (·.1) = false := by rfl) :
    SE fx X Wx (.Call (.Attribute (.Name x p1) name apos) (e :: es) [] pos) (mMut kd g i ma) := by
  obtain ⟨t, pt, q⟩ := ha.ex
  refine ⟨_, pe_bm pa slot hty hm.mt (pe_var hN hv hd hcd) pt hbase hfew hline hs hplain, fun F G H sd σ Q S h => ?_⟩
  obtain ⟨x0, s, p, e0, hs0, hp, ow, hG, h⟩ := h.own S
  split at h
  · rename_i hk
    refine ⟨.ref p, hp, hm.ty F H p x0 ow hk, args q S h fun F1 G1 H1 sd1 rs vs e1 e2 S1 r1 h => ?_⟩
    obtain ⟨ds, sd2, F2, G2, e3, e4, S2, p2, h⟩ := h.shares S1 r1
    obtain ⟨x1, s1, p', e5, hs1, hp', ow1, hG1, h⟩ := h.own S2
    rw [hp] at hp'; cases hp'
    obtain ⟨y, k2, h⟩ := h.getB
    obtain ⟨sd3, S3, h⟩ := h.putOwn S2 e5 hs1 hp
    exact hm.go F2 H1 p x1 ds vs y.1 y.2 Q S2.fh (S2.fg.free hG1) ow1 p2 k2 fun o w ow rw' => h F2 G2 _ w (Same.refl _) (Same.refl _) (S3 o ow) rw'
  · exact h.elim
theorem se_mut0 {i : Nat} {x name : Str} {p1 apos : Pos} {id T : String} {kd : D → Bool} {g : D → List D → Option (D × D)} {r : V → List V → Hp → VK → Prop} (pa : PlainAttrs T) (slot : Slot T name id) (hty : typeOf (.builtin id) = pure (.type "method_descriptor")) (hm : MutS X id T kd g r)
    (hN : X.N[i]? = some x) (hv : Vis X.env.scope x)
    (hd : (x == ("__debug__" : Str)) = false := by decide) (hcd : (x == ("__classdict__" : Str)) = false := by decide)
    (hbase : attributeBase (.Name x p1) name X.env (eval (.Name x p1) X.env) = eval (.Name x p1) X.env := by rfl)
    (hline : (apos.endLine == pos.line) = true := by rfl) :
    SE fx X Wx (.Call (.Attribute (.Name x p1) name apos) [] [] pos) (mMut kd g i mNil) := by
  refine ⟨_, pe_bm0 pa slot hty hm.mt (pe_var hN hv hd hcd) hbase hline, fun F G H sd σ Q S h => ?_⟩
  obtain ⟨x0, s, p, e0, hs0, hp, ow, hG, h⟩ := h.own S
  split at h
  · rename_i hk
    refine ⟨.ref p, hp, hm.ty F H p x0 ow hk, ?_⟩
    have h : Po (wd X) fx F G σ Wx (RlE (wd X) fx σ) Q ((mBind (mOwn i) fun x => mBind (mGet (g x [])) fun y => mBind (mPutOwn i y.1) fun _ => mPure (.val y.2)) sd) := h
    obtain ⟨x1, s1, p', e5, hs1, hp', ow1, hG1, h⟩ := h.own S
    rw [hp] at hp'; cases hp'
    obtain ⟨y, k2, h⟩ := h.getB
    obtain ⟨sd3, S3, h⟩ := h.putOwn S e5 hs1 hp
    exact hm.go F H p x1 [] [] y.1 y.2 Q S.fh (S.fg.free hG1) ow1 RepL.nil k2 fun o w ow rw' => h F G _ w (Same.refl _) (Same.refl _) (S3 o ow) rw'
  · exact h.elim
def D.isLst : D → Bool
  | .lst _ => true
  | _ => false
theorem ty_list {F H : Hp} {p : Addr} {x : D} (ow : OwnO (wd X) F H p x) (h : x.isLst = true) : tyV X.K "list" (.ref p) H := by
  cases x with
  | lst ds => obtain ⟨vs, h1, _⟩ := ow; exact .inl ⟨rfl, vs, SqL.of h1⟩
  | _ => cases h
def gAppend : D → List D → Option (D × D)
  | .lst xs, [d] => if xs.length < sizeLine then some (.lst (xs ++ [d]), .non) else none
  | _, _ => none
theorem RepL.single {W : Wd} {H : Hp} {d : D} {v : V} (r : Rep W H d v) : RepL W H [d] [v] := RepL.cons r RepL.nil
theorem ms_append : MutS X "list.append" "list" D.isLst gAppend rAppend := ⟨mt_append, fun F H p x ow h => ty_list ow h, fun F H p x ds vs x' d Q e hF ow r h k => by
  unfold gAppend at h
  split at h
  · split at h
    · rename_i hz
      cases h
      obtain ⟨us, h1, h2⟩ := ow
      obtain ⟨v, rfl, q⟩ := r.one_inv
      refine ⟨p, us, v, rfl, rfl, h1, by rw [← h2.n]; exact hz, k _ _ ⟨_, upd_same, h2.append (RepL.single q)⟩ .non⟩
    · cases h
  · cases h⟩
def gPop : D → List D → Option (D × D)
  | .lst xs, [] => xs.getLast?.map fun d => (.lst xs.dropLast, d)
  | _, _ => none
theorem ms_pop : MutS X "list.pop" "list" D.isLst gPop rPop := ⟨mt_pop, fun F H p x ow h => ty_list ow h, fun F H p x ds vs x' d Q e hF ow r h k => by
  unfold gPop at h
  split at h
  · rename_i xs
    cases e1 : xs.getLast? with
    | none => rw [e1] at h; cases h
    | some d0 =>
      rw [e1] at h
      cases h
      obtain ⟨us, h1, h2⟩ := ow
      obtain rfl := r.nil_inv
      rw [List.getLast?_eq_getElem?] at e1
      obtain ⟨w, h3, h4⟩ := h2.get e1
      rw [h2.n] at h3
      refine ⟨p, us, w, rfl, rfl, h1, h3, k _ _ ⟨_, upd_same, ?_⟩ h4⟩
      rw [List.dropLast_eq_take, List.dropLast_eq_take, h2.n]
      exact h2.take _
  · cases h⟩
end
end Av

/-! statements, targets, loops -/
namespace Av
open PySem L2
inductive RS where
  | nx (sd : List SV)
  | ret (r : RV) (sd : List SV)
  | bk (sd : List SV)
  | ct (sd : List SV)
  | exc (x : Xn) (sd : List SV)
  | fail
abbrev MS := List SV → RS
def PoS (W : Wd) (fx : Fx) (F G : Hp) (Wx : WX) (D : Ends) : RS → Prop
  | .nx sd => ∀ F' G' H' σ', Same F F' → Same G G' → SR W fx F' G' H' sd σ' → D.nx σ' H'
  | .ret r sd => ∀ F' G' H' σ' v, Same F F' → Same G G' → SR W fx F' G' H' sd σ' → RVR W fx F' G' H' sd σ' r v → D.rt v H'
  | .bk sd => ∀ F' G' H' σ', Same F F' → Same G G' → SR W fx F' G' H' sd σ' → D.bk σ' H'
  | .ct sd => ∀ F' G' H' σ', Same F F' → Same G G' → SR W fx F' G' H' sd σ' → D.ct σ' H'
  | .exc x sd => ∀ F' G' H' σ' c d, Same F F' → Same G G' → SR W fx F' G' H' sd σ' → ExR W F' H' x c d → Wx c d σ' H'
  | .fail => False
theorem PoS.mono {W : Wd} {fx : Fx} {F G F1 G1 : Hp} {Wx : WX} {D : Ends} {r : RS} (eF : Same F F1) (eG : Same G G1) (h : PoS W fx F G Wx D r) : PoS W fx F1 G1 Wx D r := by
  cases r with
  | nx sd => exact fun F' G' H' σ' e1 e2 S => h F' G' H' σ' (eF.trans e1) (eG.trans e2) S
  | ret r sd => exact fun F' G' H' σ' v e1 e2 S q => h F' G' H' σ' v (eF.trans e1) (eG.trans e2) S q
  | bk sd => exact fun F' G' H' σ' e1 e2 S => h F' G' H' σ' (eF.trans e1) (eG.trans e2) S
  | ct sd => exact fun F' G' H' σ' e1 e2 S => h F' G' H' σ' (eF.trans e1) (eG.trans e2) S
  | exc x sd => exact fun F' G' H' σ' c d e1 e2 S q => h F' G' H' σ' c d (eF.trans e1) (eG.trans e2) S q
  | fail => exact h
structure SS (fx : Fx) (X : Cx) (Wx : WX) (st : Stmt) (m : MS) : Prop where
  ex : ∃ t, PS X st t ∧ ∀ F G H sd σ D, SR (wd X) fx F G H sd σ → PoS (wd X) fx F G Wx D (m sd) → t D σ H
structure SSs (fx : Fx) (X : Cx) (Wx : WX) (st : List Stmt) (m : MS) : Prop where
  ex : ∃ t, PSs X st t ∧ ∀ F G H sd σ D, SR (wd X) fx F G H sd σ → PoS (wd X) fx F G Wx D (m sd) → t D σ H
/-- an expression, then a statement -/
def mThen {α : Type} (m : M α) (k : α → MS) : MS := fun sd => match m sd with
  | .ok a sd => k a sd
  | .exc x sd => .exc x sd
  | .fail => .fail
def mSeq (m k : MS) : MS := fun sd => match m sd with
  | .nx sd => k sd
  | r => r
def mSkip : MS := fun sd => .nx sd
section
variable {fx : Fx} {X : Cx} {Wx : WX} {e a b c : Expr} {pos : Pos} {st : Stmt} {sts : List Stmt} {m k : MS}
theorem oneS {ta : TE} {ma : M RV} (ha : ∀ F G H sd σ Q, SR (wd X) fx F G H sd σ → Po (wd X) fx F G σ Wx (RlE (wd X) fx σ) Q (ma sd) → ta σ H Q)
    {k : RV → MS} {T : V → Hp → Prop} {D : Ends} {F G H : Hp} {sd : List SV} {σ : St} (S : SR (wd X) fx F G H sd σ) (h : PoS (wd X) fx F G Wx D ((mThen ma fun ra => k ra) sd))
    (ht : ∀ F' G' H' sd' ra v, Same F F' → Same G G' → SR (wd X) fx F' G' H' sd' σ → RVR (wd X) fx F' G' H' sd' σ ra v → PoS (wd X) fx F' G' Wx D (k ra sd') → T v H') :
    ta σ H fun x H1 => T x H1 := by
  refine ha F G H sd σ _ S ?_
  unfold mThen at h
  cases ea : ma sd with
  | fail => rw [ea] at h; exact h
  | exc x sd1 => rw [ea] at h; exact fun F' G' H' c d e1 e2 S q => h F' G' H' σ c d e1 e2 S q
  | ok ra sd1 =>
    rw [ea] at h
    intro F1 G1 H1 v e1 e2 S1 r1
    exact ht F1 G1 H1 sd1 ra v e1 e2 S1 r1 (h.mono e1 e2)
theorem sss_nil : SSs fx X Wx [] mSkip := ⟨_, pss_nil, fun F G H sd σ D S h => h F G H σ (Same.refl _) (Same.refl _) S⟩
theorem sss_one (h : SS fx X Wx st m) : SSs fx X Wx [st] m := by
  obtain ⟨t, p, q⟩ := h.ex
  exact ⟨t, pss_one p, q⟩
theorem sss_cons (h1 : SS fx X Wx st m) (h2 : SSs fx X Wx sts k) : SSs fx X Wx (st :: sts) (mSeq m k) := by
  obtain ⟨t, p, q⟩ := h1.ex
  obtain ⟨u, p', q'⟩ := h2.ex
  refine ⟨_, pss_cons p p', fun F G H sd σ D S h => q F G H sd σ _ S ?_⟩
  unfold mSeq at h
  cases e : m sd with
  | nx sd1 =>
    rw [e] at h
    exact fun F' G' H' σ' e1 e2 S1 => q' F' G' H' sd1 σ' D S1 (PoS.mono e1 e2 h)
  | _ => rw [e] at h; exact h
def mExpr (ma : M RV) : MS := mThen ma fun _ => mSkip
theorem ss_expr {ma : M RV} (ha : SE fx X Wx e ma) (hs : swapsWith e none pos.line X.env = pure false := by rfl) : SS fx X Wx (.Expr e pos) (mExpr ma) := by
  obtain ⟨t, p, q⟩ := ha.ex
  exact ⟨_, ps_expr p hs, fun F G H sd σ D S h => oneS q S h fun F1 G1 H1 sd1 ra v e1 e2 S1 r1 h => h F1 G1 H1 σ (Same.refl _) (Same.refl _) S1⟩
def mRet (ma : M RV) : MS := mThen ma fun r => fun sd => .ret r sd
theorem ss_ret {ma : M RV} (ha : SE fx X Wx e ma) : SS fx X Wx (.Return (some e) pos) (mRet ma) := by
  obtain ⟨t, p, q⟩ := ha.ex
  exact ⟨_, ps_ret p, fun F G H sd σ D S h => oneS q S h fun F1 G1 H1 sd1 ra v e1 e2 S1 r1 h => h F1 G1 H1 σ v (Same.refl _) (Same.refl _) S1 r1⟩
def mRetN : MS := fun sd => .ret (.val .non) sd
theorem ss_retN : SS fx X Wx (.Return none pos) mRetN := ⟨_, ps_retN, fun F G H sd σ D S h => h F G H σ .non (Same.refl _) (Same.refl _) S .non⟩
theorem ss_pass : SS fx X Wx (.Pass pos) mSkip := ⟨_, ps_pass, fun F G H sd σ D S h => h F G H σ (Same.refl _) (Same.refl _) S⟩
def mBreak : MS := fun sd => .bk sd
def mCont : MS := fun sd => .ct sd
theorem ss_break : SS fx X Wx (.Break pos) mBreak := ⟨_, ps_break, fun F G H sd σ D S h => h F G H σ (Same.refl _) (Same.refl _) S⟩
theorem ss_cont : SS fx X Wx (.Continue pos) mCont := ⟨_, ps_continue, fun F G H sd σ D S h => h F G H σ (Same.refl _) (Same.refl _) S⟩
def mIfS (mc : M Bool) (m k : MS) : MS := mThen mc fun t => if t then m else k
theorem ss_if {mc : M Bool} {as bs : List Stmt} (hc : ST fx X Wx c mc) (ha : SSs fx X Wx as m) (hb : SSs fx X Wx bs k) : SS fx X Wx (.If c as bs pos) (mIfS mc m k) := by
  obtain ⟨t, p, q⟩ := hc.ex
  obtain ⟨u, p', q'⟩ := ha.ex
  obtain ⟨u2, p2, q2⟩ := hb.ex
  refine ⟨_, ps_if p p' p2, fun F G H sd σ D S h => q F G H sd σ _ S ?_⟩
  unfold mIfS mThen at h
  cases e : mc sd with
  | fail => rw [e] at h; exact h
  | exc x sd1 => rw [e] at h; exact fun F' G' H' c d e1 e2 S q => h F' G' H' σ c d e1 e2 S q
  | ok t sd1 =>
    rw [e] at h
    intro F1 G1 H1 b e1 e2 S1 qb
    subst qb
    have h := PoS.mono e1 e2 h
    cases t with
    | true => exact iteT (q' F1 G1 H1 sd1 σ D S1 h)
    | false => exact iteF (q2 F1 G1 H1 sd1 σ D S1 h)

/-! ### targets -/
/-- a slot is stored -/
def canPut : Option SV → Bool
  | none => false
  | some (.io _) => false
  | some .exn => false
  | some _ => true
def putIn (i : Nat) (sd : List SV) : RV → Option (List SV)
  | .val d => some (sd.set i (.sh d))
  | .bval d => some (sd.set i (if d.imm then .sh d else .bor d))
  | .fresh d => some (sd.set i (.own d))
  | .slot j => match sd[j]?.getD .no with
    | .own d => some ((sd.set j (.sh d)).set i (.sh d))
    | .sh d => some (sd.set i (.sh d))
    | _ => none
def putSlot (i : Nat) (rv : RV) (sd : List SV) : Option (List SV) := if canPut sd[i]? then putIn i sd rv else none
theorem SR.setSlot {W : Wd} {F G H : Hp} {sd : List SV} {σ : St} {i : Nat} {v : V} {s : SV} (S : SR W fx F G H sd σ) (hi : i < sd.length) (hs : SlotR W fx F G H i (σ.set i (some v)) s)
    (ap : ∀ a, s.mine = true → v = .ref a → ∀ (j : Nat) (t : SV), sd[j]? = some t → t.mine = true → σ[j]? ≠ some (some (V.ref a))) (nh : ∀ a, s.mine = true → v = .ref a → ∀ o, (a, o) ∉ fx.hold) : SR W fx F G H (sd.set i s) (σ.set i (some v)) where
  toHR := S.toHR
  len := by rw [List.length_set, List.length_set]; exact S.len
  slot := fun j t e => by
    rw [List.getElem?_set] at e
    by_cases hj : i = j
    · subst hj
      rw [if_pos rfl, if_pos hi] at e
      cases e
      exact hs
    · rw [if_neg hj] at e
      have q := S.slot j t e
      have es : (σ.set i (some v))[j]? = σ[j]? := by rw [List.getElem?_set, if_neg hj]
      cases t with
      | no => exact q
      | exn => obtain ⟨w, h0, h1⟩ := q; exact ⟨w, h0, es.trans h1⟩
      | sh d => obtain ⟨w, h1, h2⟩ := q; exact ⟨w, es.trans h1, h2⟩
      | bor d => obtain ⟨w, h1, h2⟩ := q; exact ⟨w, es.trans h1, h2⟩
      | own d => obtain ⟨w, h1, h2⟩ := q; exact ⟨w, es.trans h1, h2⟩
      | io d => obtain ⟨w, h0, h1, h2⟩ := q; exact ⟨w, h0, es.trans h1, h2⟩
  apart := fun j k t t' a e1 e2 m1 m2 p1 p2 => by
    have hs' : i < σ.length := by rw [← S.len]; exact hi
    rw [List.getElem?_set] at e1 e2 p1 p2
    by_cases hj : i = j
    · by_cases hk : i = k
      · rw [← hj, ← hk]
      · exfalso
        rw [if_pos hj, if_pos (by omega)] at e1
        rw [if_pos hj, if_pos (by omega)] at p1
        rw [if_neg hk] at e2 p2
        cases e1; cases p1
        exact ap a m1 rfl k t' e2 m2 p2
    · by_cases hk : i = k
      · exfalso
        rw [if_pos hk, if_pos (by omega)] at e2
        rw [if_pos hk, if_pos (by omega)] at p2
        rw [if_neg hj] at e1 p1
        cases e2; cases p2
        exact ap a m2 rfl j t e1 m1 p1
      · rw [if_neg hj] at e1 p1
        rw [if_neg hk] at e2 p2
        exact S.apart j k t t' a e1 e2 m1 m2 p1 p2
  free := fun a o hm j t e m p => by
    have hs' : i < σ.length := by rw [← S.len]; exact hi
    rw [List.getElem?_set] at e p
    by_cases hj : i = j
    · rw [if_pos hj, if_pos (by omega)] at e p
      cases e
      cases p
      exact nh a m rfl o hm
    · rw [if_neg hj] at e p
      exact S.free a o hm j t e m p
theorem put_ok {W : Wd} {F G H : Hp} {sd sd' : List SV} {σ : St} {i : Nat} {v : V} {rv : RV} (S : SR W fx F G H sd σ) (r : RVR W fx F G H sd σ rv v) (h : putSlot i rv sd = some sd') : ∃ F' G', Same F F' ∧ Same G G' ∧ SR W fx F' G' H sd' (σ.set i (some v)) := by
  unfold putSlot at h
  have hi : i < sd.length := by
    cases e : sd[i]? with
    | none => rw [e] at h; cases h
    | some s => exact (List.getElem?_eq_some_iff.mp e).1
  have hs' : i < σ.length := by rw [← S.len]; exact hi
  have at_ : (σ.set i (some v))[i]? = some (some v) := by rw [List.getElem?_set, if_pos rfl, if_pos hs']
  split at h
  case isFalse => cases h
  cases rv with
  | val d => cases h; exact ⟨F, G, Same.refl _, Same.refl _, S.setSlot hi ⟨v, at_, r⟩ (fun a m => by cases m) (fun a m => by cases m)⟩
  | bval d =>
    cases h
    refine ⟨F, G, Same.refl _, Same.refl _, S.setSlot hi ?_ (fun a m => by split at m <;> cases m) (fun a m => by split at m <;> cases m)⟩
    split
    · rename_i him
      exact ⟨v, at_, Rep.imm S.tup (Rep.keep S.gh r) him⟩
    · exact ⟨v, at_, r⟩
  | fresh d =>
    cases h
    obtain ⟨p, rfl, h1, h2, h3, h4, h5⟩ := r
    exact ⟨F, G, Same.refl _, Same.refl _, S.setSlot hi ⟨p, at_, h1, h2, h3⟩ (fun a _ ea j t e m => by cases ea; exact h4 j t e m) (fun a _ ea => by cases ea; exact h5)⟩
  | slot j =>
    have r : σ[j]? = some (some v) := r
    unfold putIn at h
    dsimp only at h
    cases e : sd[j]? with
    | none => rw [e] at h; cases h
    | some s =>
      rw [e] at h
      cases s with
      | own d =>
        cases h
        obtain ⟨F', G', w, e1, e2, S', e3, e4⟩ := S.frzSlot e
        rw [r] at e3; cases e3
        exact ⟨F', G', e1, e2, S'.setSlot (by rw [List.length_set]; exact hi) ⟨v, at_, e4⟩ (fun a m => by cases m) (fun a m => by cases m)⟩
      | sh d =>
        cases h
        obtain ⟨w, e3, e4⟩ := S.slot j _ e
        rw [r] at e3; cases e3
        exact ⟨F, G, Same.refl _, Same.refl _, S.setSlot hi ⟨v, at_, e4⟩ (fun a m => by cases m) (fun a m => by cases m)⟩
      | no => cases h
      | exn => cases h
      | bor d => cases h
      | io d => cases h
abbrev MG := RV → List SV → Option (List SV)
/-- only these slots were stored -/
structure Off (sl : List Nat) (σ σ' : L2.St) : Prop where
  len : σ'.length = σ.length
  out : ∀ i, i ∉ sl → σ'[i]? = σ[i]?
/-- a target takes a result. It raises nothing. sl: the slots that it may store -/
structure SG (fx : Fx) (X : Cx) (tg : Expr) (sl : List Nat) (g : MG) : Prop where
  ex : ∃ t, PG X tg t ∧ ∀ F G H sd sd' σ rv v (Q : St → Hp → Prop), SR (wd X) fx F G H sd σ → RVR (wd X) fx F G H sd σ rv v → g rv sd = some sd' →
    (∀ F' G' H' σ', Same F F' → Same G G' → SR (wd X) fx F' G' H' sd' σ' → Off sl σ σ' → Q σ' H') → t v σ H Q
theorem sg_name {i : Nat} {x : Str} (hN : X.N.Nodup) (hi : X.N[i]? = some x) (hx : Loc X.env.scope x) (hf : X.fn x = true ∨ X.env.scope.names.lookup x = some .local := by first | exact .inl rfl | exact .inr rfl | assumption) : SG fx X (.Name x pos) [i] (putSlot i) :=
  ⟨_, pg_name hN hi hx hf, fun F G H sd sd' σ rv v Q S r h k => by
    obtain ⟨F', G', e1, e2, S'⟩ := put_ok S r h
    exact k F' G' H _ e1 e2 S' ⟨by rw [List.length_set], fun j hj => by rw [List.getElem?_set, if_neg (fun z => hj (by simp [z]))]⟩⟩
structure SGs (fx : Fx) (X : Cx) (ts : List Expr) (sl : List Nat) (g : List RV → List SV → Option (List SV)) : Prop where
  ex : ∃ t, PGs X ts t ∧ ∀ F G H sd sd' σ rvs vs (Q : St → Hp → Prop), SR (wd X) fx F G H sd σ → (rvs.length = vs.length ∧ ∀ (i : Nat) r v, rvs[i]? = some r → vs[i]? = some v → r.keep = r ∧ (∀ j, r ≠ .slot j) ∧ RVR (wd X) fx F G H sd σ r v) → g rvs sd = some sd' →
    (∀ F' G' H' σ', Same F F' → Same G G' → SR (wd X) fx F' G' H' sd' σ' → Off sl σ σ' → Q σ' H') → t vs σ H Q
def gsNil : List RV → List SV → Option (List SV)
  | [], sd => some sd
  | _, _ => none
def gsCons (g : MG) (gs : List RV → List SV → Option (List SV)) : List RV → List SV → Option (List SV)
  | r :: rs, sd => (g r sd).bind fun sd => gs rs sd
  | _, _ => none
theorem sgs_nil : SGs fx X [] [] gsNil := ⟨_, pgs_nil, fun F G H sd sd' σ rvs vs Q S r h k => by
  cases rvs with
  | nil =>
    cases h
    have : vs = [] := by have := r.1; cases vs; rfl; simp at this
    exact ⟨this, k F G H σ (Same.refl _) (Same.refl _) S ⟨rfl, fun _ _ => rfl⟩⟩
  | cons _ _ => cases h⟩
theorem sgs_cons {es : List Expr} {g : MG} {gs : List RV → List SV → Option (List SV)} {sl sls : List Nat} (h1 : SG fx X e sl g) (h2 : SGs fx X es sls gs)
    (hs : (assignEach (e :: es) X.env).map (·.2) = assign e X.env :: (assignEach es X.env).map (·.2) := by rfl) : SGs fx X (e :: es) (sl ++ sls) (gsCons g gs) := by
  obtain ⟨t, p, q⟩ := h1.ex
  obtain ⟨u, p', q'⟩ := h2.ex
  refine ⟨_, pgs_cons p p' hs, fun F G H sd sd' σ rvs vs Q S r h k => ?_⟩
  cases rvs with
  | nil => cases h
  | cons r0 rs =>
    cases vs with
    | nil => have := r.1; simp at this
    | cons v0 vs =>
      have h : (g r0 sd).bind (fun sd => gs rs sd) = some sd' := h
      cases eg : g r0 sd with
      | none => rw [eg] at h; cases h
      | some sd1 =>
        rw [eg] at h
        obtain ⟨a1, a2, a3⟩ := r.2 0 r0 v0 rfl rfl
        refine ⟨v0, vs, rfl, q F G H sd sd1 σ r0 v0 _ S a3 eg fun F1 G1 H1 σ1 e1 e2 S1 w1 => ?_⟩
        refine q' F1 G1 H1 sd1 sd' σ1 rs vs Q S1 ⟨by have := r.1; simpa using this, fun i r' v' h1 h2 => ?_⟩ h fun F2 G2 H2 σ2 e3 e4 S2 w2 => k F2 G2 H2 σ2 (e1.trans e3) (e2.trans e4) S2 ⟨w2.len.trans w1.len, fun i hi => by
          rw [List.mem_append] at hi
          rw [w2.out i (fun z => hi (.inr z)), w1.out i (fun z => hi (.inl z))]⟩
        obtain ⟨b1, b2, b3⟩ := r.2 (i + 1) r' v' (by simpa using h1) (by simpa using h2)
        refine ⟨b1, b2, ?_⟩
        cases r' with
        | val d => exact Rep.keep e1 b3
        | bval d => exact Rep.keep e2 b3
        | fresh d => exact absurd b1 (by simp [RV.keep])
        | slot j => exact absurd rfl (b2 j)
/-- the items of a tuple, as results -/
def itemsOf (rv : RV) : Option (List RV) := match rv with
  | .val (.tup ds) => some (ds.map .val)
  | .fresh (.tup ds) => some (ds.map .val)
  | .bval (.tup ds) => some (ds.map fun d => if d.imm then .val d else .bval d)
  | _ => none
def gTupT (n : Nat) (gs : List RV → List SV → Option (List SV)) : MG := fun rv sd => (itemsOf rv).bind fun rs => if rs.length = n then gs rs sd else none
theorem items_ok {W : Wd} {F G H : Hp} {sd : List SV} {σ : St} {rv : RV} {v : V} {rs : List RV} (S : SR W fx F G H sd σ) (r : RVR W fx F G H sd σ rv v) (h : itemsOf rv = some rs) :
    ∃ a vs, v = .ref a ∧ SqT W.K H a vs ∧ rs.length = vs.length ∧ ∀ (i : Nat) r v, rs[i]? = some r → vs[i]? = some v → r.keep = r ∧ (∀ j, r ≠ .slot j) ∧ RVR W fx F G H sd σ r v := by
  unfold itemsOf at h
  split at h
  · rename_i ds
    cases h
    obtain ⟨a, vs, rfl, h1, h2⟩ := Rep.tup_inv r
    refine ⟨a, vs, rfl, sqT_keep S.fh h1, by simp [h2.n], fun i r v e1 e2 => ?_⟩
    rw [List.getElem?_map] at e1
    cases ed : ds[i]? with
    | none => rw [ed] at e1; cases e1
    | some d =>
      rw [ed] at e1; cases e1
      exact ⟨rfl, fun j z => by (cases z), h2.r i d v ed e2⟩
  · rename_i ds
    obtain ⟨p, _, _, _, z, _⟩ := r
    exact z.elim
  · rename_i ds
    cases h
    obtain ⟨a, vs, rfl, h1, h2⟩ := Rep.tup_inv r
    refine ⟨a, vs, rfl, sqT_keep S.gh h1, by simp [h2.n], fun i r v e1 e2 => ?_⟩
    rw [List.getElem?_map] at e1
    cases ed : ds[i]? with
    | none => rw [ed] at e1; cases e1
    | some d =>
      rw [ed] at e1; cases e1
      have q := h2.r i d v ed e2
      show (if d.imm then RV.val d else .bval d).keep = (if d.imm then .val d else .bval d) ∧ (∀ j, (if d.imm then RV.val d else .bval d) ≠ .slot j) ∧ RVR W fx F G H sd σ (if d.imm then .val d else .bval d) v
      split
      · rename_i hi; exact ⟨rfl, fun j z => by (cases z), Rep.imm S.tup (q.keep S.gh) hi⟩
      · exact ⟨rfl, fun j z => by (cases z), q⟩
  · cases h
theorem sg_tup {es : List Expr} {kk n : Nat} {sl : List Nat} {gs : List RV → List SV → Option (List SV)} (hc : X.calm = true) (h : SGs fx X es sl gs)
    (hn : (assignEach es X.env).length = n := by rfl) (hst : (assignEach es X.env).findIdx? (·.1) = none := by rfl) : SG fx X (.Tuple es kk pos) sl (gTupT n gs) := by
  obtain ⟨t, p, q⟩ := h.ex
  refine ⟨_, pg_tup hc p hn hst, fun F G H sd sd' σ rv v Q S r h k => ?_⟩
  unfold gTupT at h
  cases ei : itemsOf rv with
  | none => rw [ei] at h; cases h
  | some rs =>
    rw [ei] at h
    have h : (if rs.length = n then gs rs sd else none) = some sd' := h
    split at h
    · rename_i hl
      obtain ⟨a, vs, rfl, h1, h2, h3⟩ := items_ok S r ei
      exact ⟨a, vs, rfl, h1, by rw [← h2]; exact hl, q F G H sd sd' σ rs vs Q S ⟨h2, h3⟩ h k⟩
    · cases h
/-- target = value -/
def mAsg (g : MG) (ma : M RV) : MS := mThen ma fun r => fun sd => match g r sd with
  | some sd => .nx sd
  | none => .fail
theorem ss_asg {tg : Expr} {sl : List Nat} {g : MG} {ma : M RV} (ha : SE fx X Wx e ma) (hg : SG fx X tg sl g) (hs : swapsWithSole [tg] e pos.line X.env = pure false := by rfl) (hw : swappedStores [tg] e X.env = pure none := by rfl)
    (h1 : (assignEach [tg] X.env).map (·.2) = [assign tg X.env] := by rfl) : SS fx X Wx (.Assign [tg] e pos) (mAsg g ma) := by
  obtain ⟨t, p, q⟩ := ha.ex
  obtain ⟨u, p', q'⟩ := hg.ex
  refine ⟨_, ps_asg p p' hs hw h1, fun F G H sd σ D S h => oneS q S h fun F1 G1 H1 sd1 ra v e1 e2 S1 r1 h => ?_⟩
  cases eg : g ra sd1 with
  | none => rw [eg] at h; exact h.elim
  | some sd2 =>
    rw [eg] at h
    exact q' F1 G1 H1 sd1 sd2 σ ra v _ S1 r1 eg fun F2 G2 H2 σ2 e3 e4 S2 _ => h F2 G2 H2 σ2 e3 e4 S2
end
end Av

/-! what is walked; for, while; x[i] = e -/
namespace Av
open PySem L2
/-- J gives the items, as long as the shared part stands -/
def Walks (W : Wd) (F G : Hp) (J : It) (items : List RV) : Prop := ∀ (fx : Fx) (i : Nat) F1 G1 H1 sd1 σ1, Same F F1 → Same G G1 → SR W fx F1 G1 H1 sd1 σ1 →
  (i = items.length → J.stop i H1) ∧ ∀ r, items[i]? = some r → J.go i H1 ∧ ∀ x H2, J.yld i H1 x H2 → ∃ F2 G2, Same F1 F2 ∧ Same G1 G2 ∧ SR W fx F2 G2 H2 sd1 σ1 ∧ RVR W fx F2 G2 H2 sd1 σ1 r x
def PoI (W : Wd) (fx : Fx) (F G : Hp) (σ : St) (Wx : WX) (Rj : It → Hp → Prop) : R (List RV) → Prop
  | .ok a sd => ∀ F' G' H' J, Same F F' → Same G G' → SR W fx F' G' H' sd σ → Walks W F' G' J a → Rj J H'
  | .exc x sd => ∀ F' G' H' c d, Same F F' → Same G G' → SR W fx F' G' H' sd σ → ExR W F' H' x c d → Wx c d σ H'
  | .fail => False
theorem PoI.mono {W : Wd} {fx : Fx} {F G F1 G1 : Hp} {σ : St} {Wx : WX} {Rj : It → Hp → Prop} {r : R (List RV)} (eF : Same F F1) (eG : Same G G1) (h : PoI W fx F G σ Wx Rj r) : PoI W fx F1 G1 σ Wx Rj r := by
  cases r with
  | ok a sd => exact fun F' G' H' b e1 e2 S q => h F' G' H' b (eF.trans e1) (eG.trans e2) S q
  | exc x sd => exact fun F' G' H' c d e1 e2 S q => h F' G' H' c d (eF.trans e1) (eG.trans e2) S q
  | fail => exact h
structure SI (fx : Fx) (X : Cx) (Wx : WX) (tg iter : Expr) (m : M (List RV)) : Prop where
  ex : ∃ wi, PI X tg iter wi ∧ ∀ F G H sd σ Rj, SR (wd X) fx F G H sd σ → PoI (wd X) fx F G σ Wx Rj (m sd) → wi σ H Rj
section
variable {fx : Fx} {X : Cx} {Wx : WX} {e a b c tg : Expr} {pos : Pos} {st : Stmt} {sts : List Stmt} {m k : MS}
theorem oneI {ta : TE} {ma : M RV} (ha : ∀ F G H sd σ Q, SR (wd X) fx F G H sd σ → Po (wd X) fx F G σ Wx (RlE (wd X) fx σ) Q (ma sd) → ta σ H Q)
    {k : RV → M (List RV)} {T : V → Hp → Prop} {Rj : It → Hp → Prop} {F G H : Hp} {sd : List SV} {σ : St} (S : SR (wd X) fx F G H sd σ) (h : PoI (wd X) fx F G σ Wx Rj ((mBind ma fun ra => k ra) sd))
    (ht : ∀ F' G' H' sd' ra v, Same F F' → Same G G' → SR (wd X) fx F' G' H' sd' σ → RVR (wd X) fx F' G' H' sd' σ ra.keep v → PoI (wd X) fx F' G' σ Wx Rj (k ra sd') → T v H') :
    ta σ H fun x H1 => T x H1 := by
  refine ha F G H sd σ _ S ?_
  unfold mBind at h
  cases ea : ma sd with
  | fail => rw [ea] at h; exact h
  | exc x sd1 => rw [ea] at h; exact h
  | ok ra sd1 =>
    rw [ea] at h
    intro F1 G1 H1 v e1 e2 S1 r1
    obtain ⟨F2, G2, e3, e4, S2, r2⟩ := r1.keep S1
    exact ht F2 G2 H1 sd1 ra v (e1.trans e3) (e2.trans e4) S2 r2 (h.mono (e1.trans e3) (e2.trans e4))
theorem argsI {ta : TA} {ma : M (List RV)} (ha : ∀ F G H sd σ Q, SR (wd X) fx F G H sd σ → Po (wd X) fx F G σ Wx (fun F G H sd rs vs => RVRs (wd X) fx F G H sd σ rs vs) Q (ma sd) → ta σ H Q)
    {k : List RV → M (List RV)} {T : List V → Hp → Prop} {Rj : It → Hp → Prop} {F G H : Hp} {sd : List SV} {σ : St} (S : SR (wd X) fx F G H sd σ) (h : PoI (wd X) fx F G σ Wx Rj ((mBind ma fun ra => k ra) sd))
    (ht : ∀ F' G' H' sd' ra vs, Same F F' → Same G G' → SR (wd X) fx F' G' H' sd' σ → RVRs (wd X) fx F' G' H' sd' σ ra vs → PoI (wd X) fx F' G' σ Wx Rj (k ra sd') → T vs H') :
    ta σ H fun x H1 => T x H1 := by
  refine ha F G H sd σ _ S ?_
  unfold mBind at h
  cases ea : ma sd with
  | fail => rw [ea] at h; exact h
  | exc x sd1 => rw [ea] at h; exact h
  | ok ra sd1 =>
    rw [ea] at h
    intro F1 G1 H1 v e1 e2 S1 r1
    exact ht F1 G1 H1 sd1 ra v e1 e2 S1 r1 (h.mono e1 e2)
theorem PoI.reads {W : Wd} {F G H : Hp} {σ : St} {Rj : It → Hp → Prop} {rs : List RV} {vs : List V} {k : List D → M (List RV)} {sd : List SV} (S : SR W fx F G H sd σ) (q : RVRs W fx F G H sd σ rs vs) (h : PoI W fx F G σ Wx Rj ((mBind (mReads rs) k) sd)) :
    ∃ ds, RepL W H ds vs ∧ PoI W fx F G σ Wx Rj (k ds sd) := by
  unfold mBind at h
  cases e : mReads rs sd with
  | fail => rw [e] at h; exact h.elim
  | exc x s =>
    exfalso
    have h2 : Po W fx F G σ (fun _ _ _ _ => True) (RlE W fx σ) (fun _ _ => False) ((mBind (mReads rs) fun _ => (mFail : M RV)) sd) := by
      unfold mBind
      rw [e]
      exact fun _ _ _ _ _ _ _ _ _ => True.intro
    obtain ⟨_, _, z⟩ := Po.reads S q h2
    exact z
  | ok ds sd' =>
    rw [e] at h
    obtain ⟨rfl, p⟩ := reads_ok S q e
    exact ⟨ds, p, h⟩
theorem PoI.get {α : Type} {W : Wd} {F G : Hp} {σ : St} {Rj : It → Hp → Prop} {o : Option α} {k : α → M (List RV)} {sd : List SV} (h : PoI W fx F G σ Wx Rj ((mBind (mGet o) k) sd)) : ∃ d, o = some d ∧ PoI W fx F G σ Wx Rj (k d sd) := by
  unfold mBind mGet at h
  cases o with
  | none => exact h.elim
  | some d => exact ⟨d, rfl, h⟩
/-- the items of a list or tuple that is walked: an own list becomes shared -/
def seqItems : RV → Option (List RV)
  | .val (.tup ds) => some (ds.map .val)
  | .val (.lst ds) => some (ds.map .val)
  | .bval (.tup ds) => some (ds.map fun d => if d.imm then .val d else .bval d)
  | .bval (.lst ds) => some (ds.map fun d => if d.imm then .val d else .bval d)
  | _ => none
/-- an own object in a slot, as a shared value from now on -/
def mSettle : RV → M RV
  | .slot i => fun sd => match sd[i]?.getD .no with
    | .own d => .ok (.val d) (sd.set i (.sh d))
    | .sh d => .ok (.val d) sd
    | .bor d => .ok (.bval d) sd
    | _ => .fail
  | .fresh d => mPure (.val d)
  | r => mPure r
theorem settle_ok {W : Wd} {F G H : Hp} {σ : St} {sd sd' : List SV} {r r' : RV} {v : V} (S : SR W fx F G H sd σ) (q : RVR W fx F G H sd σ r.keep v) (h : mSettle r sd = .ok r' sd') : ∃ F' G', Same F F' ∧ Same G G' ∧ SR W fx F' G' H sd' σ ∧ RVR W fx F' G' H sd' σ r' v ∧ r'.keep = r' := by
  cases r with
  | val d' => cases h; exact ⟨F, G, Same.refl _, Same.refl _, S, q, rfl⟩
  | fresh d' => cases h; exact ⟨F, G, Same.refl _, Same.refl _, S, q, rfl⟩
  | bval d' => cases h; exact ⟨F, G, Same.refl _, Same.refl _, S, q, rfl⟩
  | slot i =>
    unfold mSettle at h
    dsimp only at h
    have q : σ[i]? = some (some v) := q
    cases e : sd[i]? with
    | none => rw [e] at h; cases h
    | some s =>
      rw [e] at h
      cases s with
      | own d' =>
        cases h
        obtain ⟨F', G', w, e1, e2, S', e3, e4⟩ := S.frzSlot e
        rw [q] at e3; cases e3
        exact ⟨F', G', e1, e2, S', e4, rfl⟩
      | sh d' =>
        cases h
        obtain ⟨w, e3, e4⟩ := S.slot i _ e
        rw [q] at e3; cases e3
        exact ⟨F, G, Same.refl _, Same.refl _, S, e4, rfl⟩
      | bor d' =>
        cases h
        obtain ⟨w, e3, e4⟩ := S.slot i _ e
        rw [q] at e3; cases e3
        exact ⟨F, G, Same.refl _, Same.refl _, S, e4, rfl⟩
      | no => cases h
      | exn => cases h
      | io d => cases h
theorem PoI.settle {W : Wd} {F G H : Hp} {σ : St} {Rj : It → Hp → Prop} {r : RV} {v : V} {k : RV → M (List RV)} {sd : List SV} (S : SR W fx F G H sd σ) (q : RVR W fx F G H sd σ r.keep v) (h : PoI W fx F G σ Wx Rj ((mBind (mSettle r) k) sd)) :
    ∃ r' sd' F' G', Same F F' ∧ Same G G' ∧ SR W fx F' G' H sd' σ ∧ RVR W fx F' G' H sd' σ r' v ∧ PoI W fx F' G' σ Wx Rj (k r' sd') := by
  unfold mBind at h
  cases e : mSettle r sd with
  | fail => rw [e] at h; exact h.elim
  | exc x s =>
    exfalso
    unfold mSettle at e
    split at e <;> first | (cases e; done) | (split at e <;> cases e)
  | ok r' sd' =>
    rw [e] at h
    obtain ⟨F', G', e1, e2, S', p, _⟩ := settle_ok S q e
    exact ⟨r', sd', F', G', e1, e2, S', p, h.mono e1 e2⟩
def mSeqIt (ma : M RV) : M (List RV) := mBind ma fun r => mBind (mSettle r) fun r => mGet (seqItems r)
theorem PI.or {w w' : TI} (h : PI X tg e w) (h' : PI X tg e w') : PI X tg e (fun σ H Rj => w σ H Rj ∨ w' σ H Rj) := ⟨fun pins s σ H Rj I q => by
  rcases q with q | q
  · exact h.run pins s σ H Rj I q
  · exact h'.run pins s σ H Rj I q⟩
/-- over a list or a tuple -/
def iSeq (K : PySem.W.Frag) (tl : TE) : TI := fun σ H R => tl σ H fun x H1 => ∃ a, x = .ref a ∧ ((∃ xs, SqL K H1 a xs) ∧ R (Itl K a) H1 ∨ (∃ xs, SqT K H1 a xs) ∧ R (Itt K a) H1)
theorem pi_seq {l : Expr} {tl : TE} (hl : PE X l tl) : PI X tg l (iSeq X.K tl) := by
  refine ⟨fun pins s σ H R I h => ?_⟩
  refine thn (hl.run pins s σ H _ I h) fun v s1 ⟨x, H1, I1, r1, q1⟩ => ?_
  obtain ⟨a, e, q1⟩ := q1
  subst e
  cases r1
  have fin : ∀ b, b ∈ [s1.heap.objs.size] → FpOk X pins H1 b := fun b hb => by
    have e : b = s1.heap.objs.size := by simpa using hb
    subst e
    exact I1.fpOk (Nat.le_refl _) (I1.hok.fresh (Nat.le_refl _))
  rcases q1 with ⟨⟨xs, hq⟩, q⟩ | ⟨⟨xs, hq⟩, q⟩
  · obtain ⟨its, rv, p, hz⟩ := I1.list hq
    refine wpAny_pyIter_list p.isList ?_
    exact ⟨s1.heap.objs.size, [s1.heap.objs.size], _, _, H1, rfl, I1.kept (t' := s1.toks) fun b o e => Heap.get?_push_of_some _ e, turn_list a _, ⟨_, Heap.get?_push_size _ rfl, rfl, rfl⟩, fin, q⟩
  · obtain ⟨its, rv, p, hz⟩ := I1.tuple hq
    refine wpAny_pyIter_tuple (show s1.heap.IsTuple a its.toArray from p) ?_
    exact ⟨s1.heap.objs.size, [s1.heap.objs.size], _, _, H1, rfl, I1.kept (t' := s1.toks) fun b o e => Heap.get?_push_of_some _ e, turn_tuple a _, ⟨_, Heap.get?_push_size _ rfl, rfl, rfl⟩, fin, q⟩
/-- what a list or tuple that stands gives -/
theorem seq_items {W : Wd} {F G H : Hp} {sd : List SV} {σ : St} {r : RV} {v : V} {items : List RV} (S : SR W fx F G H sd σ) (q : RVR W fx F G H sd σ r v) (h : seqItems r = some items) :
    ∃ a vs, v = .ref a ∧ (SqL W.K G a vs ∨ SqT W.K G a vs) ∧ items.length = vs.length ∧ ∀ (fx : Fx) (i : Nat) r x F' G' H' sd' σ', items[i]? = some r → vs[i]? = some x → Same F F' → Same G G' → SR W fx F' G' H' sd' σ' → RVR W fx F' G' H' sd' σ' r x := by
  have val : ∀ {ds : List D} {vs : List V}, RepL W F ds vs → (ds.map RV.val).length = vs.length ∧ ∀ (fx : Fx) (i : Nat) r x F' G' H' sd' σ', (ds.map RV.val)[i]? = some r → vs[i]? = some x → Same F F' → Same G G' → SR W fx F' G' H' sd' σ' → RVR W fx F' G' H' sd' σ' r x := fun {ds vs} rl =>
    ⟨by simp [rl.n], fun fx i r x F' G' H' sd' σ' e1 e2 e3 e4 S' => by
      rw [List.getElem?_map] at e1
      cases ed : ds[i]? with
      | none => rw [ed] at e1; cases e1
      | some d => rw [ed] at e1; cases e1; exact Rep.keep e3 (rl.r i d x ed e2)⟩
  have bval : ∀ {ds : List D} {vs : List V}, RepL W G ds vs → (ds.map fun d => if d.imm then RV.val d else .bval d).length = vs.length ∧ ∀ (fx : Fx) (i : Nat) r x F' G' H' sd' σ', (ds.map fun d => if d.imm then RV.val d else .bval d)[i]? = some r → vs[i]? = some x → Same F F' → Same G G' → SR W fx F' G' H' sd' σ' → RVR W fx F' G' H' sd' σ' r x := fun {ds vs} rl =>
    ⟨by simp [rl.n], fun fx i r x F' G' H' sd' σ' e1 e2 e3 e4 S' => by
      rw [List.getElem?_map] at e1
      cases ed : ds[i]? with
      | none => rw [ed] at e1; cases e1
      | some d =>
        rw [ed] at e1; cases e1
        have q := (rl.r i d x ed e2).keep e4
        show RVR W fx F' G' H' sd' σ' (if d.imm then .val d else .bval d) x
        split
        · rename_i hi; exact Rep.imm S'.tup (q.keep S'.gh) hi
        · exact q⟩
  unfold seqItems at h
  split at h
  · cases h
    obtain ⟨a, vs, rfl, h1, h2⟩ := Rep.tup_inv q
    exact ⟨a, vs, rfl, .inr (sqT_keep S.fg h1), val h2⟩
  · cases h
    obtain ⟨a, vs, rfl, h1, h2⟩ := Rep.lst_inv q
    exact ⟨a, vs, rfl, .inl (S.fg.seq h1), val h2⟩
  · cases h
    obtain ⟨a, vs, rfl, h1, h2⟩ := Rep.tup_inv q
    exact ⟨a, vs, rfl, .inr h1, bval h2⟩
  · cases h
    obtain ⟨a, vs, rfl, h1, h2⟩ := Rep.lst_inv q
    exact ⟨a, vs, rfl, .inl h1, bval h2⟩
  · cases h
theorem si_seq {ma : M RV} (ha : SE fx X Wx e ma) : SI fx X Wx tg e (mSeqIt ma) := by
  obtain ⟨t, p, q⟩ := ha.ex
  refine ⟨_, pi_seq p, fun F G H sd σ Rj S h => oneI q S h fun F1 G1 H1 sd1 ra v e1 e2 S1 r1 h => ?_⟩
  obtain ⟨r', sd2, F2, G2, e3, e4, S2, p2, h⟩ := h.settle S1 r1
  unfold mGet at h
  cases ei : seqItems r' with
  | none => rw [ei] at h; exact h.elim
  | some items =>
    rw [ei] at h
    obtain ⟨a, vs, rfl, h1, hn, h2⟩ := seq_items S2 p2 ei
    refine ⟨a, rfl, ?_⟩
    rcases h1 with h1 | h1
    · refine .inl ⟨⟨vs, S2.gh.seq h1⟩, h F2 G2 H1 _ (Same.refl _) (Same.refl _) S2 fun fx3 i F3 G3 H3 sd3 σ3 i1 i2 S3 => ?_⟩
      have hq := S3.gh.seq (i2.seq h1)
      refine ⟨fun e => ⟨vs, hq, by omega⟩, fun r er => ?_⟩
      have hi : i < vs.length := by rw [← hn]; exact (List.getElem?_eq_some_iff.mp er).1
      refine ⟨⟨vs, vs[i], hq, List.getElem?_eq_getElem hi⟩, fun x H4 y => ?_⟩
      obtain ⟨rfl, y⟩ := y
      exact ⟨F3, G3, Same.refl _, Same.refl _, S3, h2 fx3 i r x F3 G3 _ sd3 σ3 er (y vs hq) i1 i2 S3⟩
    · refine .inr ⟨⟨vs, sqT_keep S2.gh h1⟩, h F2 G2 H1 _ (Same.refl _) (Same.refl _) S2 fun fx3 i F3 G3 H3 sd3 σ3 i1 i2 S3 => ?_⟩
      have hq := sqT_keep S3.gh (sqT_keep i2 h1)
      refine ⟨fun e => ⟨vs, hq, by omega⟩, fun r er => ?_⟩
      have hi : i < vs.length := by rw [← hn]; exact (List.getElem?_eq_some_iff.mp er).1
      refine ⟨⟨vs, vs[i], hq, List.getElem?_eq_getElem hi⟩, fun x H4 y => ?_⟩
      obtain ⟨rfl, y⟩ := y
      exact ⟨F3, G3, Same.refl _, Same.refl _, S3, h2 fx3 i r x F3 G3 _ sd3 σ3 er (y vs hq) i1 i2 S3⟩
/-- ranges -/
def rangeItems (lo : Int) (n : Nat) : List RV := (List.range n).map fun (i : Nat) => RV.val (D.int (lo + (i : Int)))
theorem range_walks {W : Wd} {F G : Hp} (lo : Int) (n : Nat) : Walks W F G (Itr lo n) (rangeItems lo n) := fun fx i F1 G1 H1 sd1 σ1 _ _ S1 => by
  have hl : (rangeItems lo n).length = n := by simp [rangeItems]
  refine ⟨fun e => by rw [hl] at e; exact Nat.le_of_eq e.symm, fun r er => ?_⟩
  have hi : i < n := by rw [← hl]; exact (List.getElem?_eq_some_iff.mp er).1
  refine ⟨hi, fun x H2 y => ?_⟩
  obtain ⟨rfl, rfl⟩ := y
  unfold rangeItems at er
  rw [List.getElem?_map, List.getElem?_range hi] at er
  cases er
  exact ⟨F1, G1, Same.refl _, Same.refl _, S1, .int _⟩
def rangeOk (i : Int) : Bool := decide (-4611686018427387904 ≤ i) && decide (i < 4611686018427387904)
theorem rangeOk_of {i : Int} (h : rangeOk i = true) : -(2 ^ 62) ≤ i ∧ i < 2 ^ 62 := by
  unfold rangeOk at h
  rw [Bool.and_eq_true, decide_eq_true_eq, decide_eq_true_eq] at h
  have : (2 : Int) ^ 62 = 4611686018427387904 := by decide
  omega
def gRange1 : List D → Option (List RV)
  | [.int j] => if rangeOk j then some (rangeItems 0 j.toNat) else none
  | _ => none
def gRange2 : List D → Option (List RV)
  | [.int i, .int j] => if rangeOk i && rangeOk j then some (rangeItems i (j - i).toNat) else none
  | _ => none
def mRange (g : List D → Option (List RV)) (ma : M (List RV)) : M (List RV) := mBind ma fun rs => mBind (mReads rs) fun ds => mBind (mGet (g ds)) fun is => mPure is
theorem si_range1 {p : Pos} {ma : M (List RV)} (hg : Gl X "range") (hm : X.mg "range" = none) (ha : SA fx X Wx [a] ma) (hs : starEach [a] X.env = [(false, eval a X.env)] := by rfl) : SI fx X Wx tg (.Call (.Name "range" p) [a] [] pos) (mRange gRange1 ma) := by
  obtain ⟨t, pa, q⟩ := ha.ex
  refine ⟨_, pi_range1 hg hm pa hs, fun F G H sd σ Rj S h => argsI q S h fun F1 G1 H1 sd1 rs vs e1 e2 S1 r1 h => ?_⟩
  obtain ⟨ds, p2, h⟩ := h.reads S1 r1
  obtain ⟨is, k1, h⟩ := h.get
  unfold gRange1 at k1
  split at k1
  · split at k1
    · rename_i j hj
      cases k1
      obtain ⟨v, rfl, q⟩ := p2.one_inv
      obtain rfl := q.int_inv
      obtain ⟨b1, b2⟩ := rangeOk_of hj
      exact ⟨j, rfl, b1, b2, h F1 G1 H1 _ (Same.refl _) (Same.refl _) S1 (range_walks 0 j.toNat)⟩
    · cases k1
  · cases k1
theorem si_range2 {p : Pos} {ma : M (List RV)} (hg : Gl X "range") (hm : X.mg "range" = none) (ha : SA fx X Wx [a, b] ma) (hs : starEach [a, b] X.env = [(false, eval a X.env), (false, eval b X.env)] := by rfl) (hs2 : starEach [b] X.env = [(false, eval b X.env)] := by rfl) : SI fx X Wx tg (.Call (.Name "range" p) [a, b] [] pos) (mRange gRange2 ma) := by
  obtain ⟨t, pa, q⟩ := ha.ex
  refine ⟨_, pi_range2 hg hm pa hs hs2, fun F G H sd σ Rj S h => argsI q S h fun F1 G1 H1 sd1 rs vs e1 e2 S1 r1 h => ?_⟩
  obtain ⟨ds, p2, h⟩ := h.reads S1 r1
  obtain ⟨is, k1, h⟩ := h.get
  unfold gRange2 at k1
  split at k1
  · split at k1
    · rename_i i j hj
      rw [Bool.and_eq_true] at hj
      cases k1
      obtain ⟨v, w, rfl, q, q'⟩ := p2.two_inv
      obtain rfl := q.int_inv
      obtain rfl := q'.int_inv
      obtain ⟨b1, b2⟩ := rangeOk_of hj.1
      obtain ⟨b3, b4⟩ := rangeOk_of hj.2
      exact ⟨i, j, rfl, ⟨b1, b2, b3, b4⟩, h F1 G1 H1 _ (Same.refl _) (Same.refl _) S1 (range_walks i (j - i).toNat)⟩
    · cases k1
  · cases k1

/-! ### for -/
def forGo (g : MG) (body : MS) : List RV → MS
  | [], sd => .nx sd
  | r :: rs, sd => match g r sd with
    | none => .fail
    | some sd1 => match body sd1 with
      | .nx sd2 => forGo g body rs sd2
      | .ct sd2 => forGo g body rs sd2
      | .bk sd2 => .nx sd2
      | r => r
def mFor (mi : M (List RV)) (g : MG) (body : MS) : MS := mThen mi fun items => forGo g body items
theorem ss_for {mi : M (List RV)} {sl : List Nat} {g : MG} {body : MS} (hp : PassesOwn (model X.prog X.w) X.A X.env X.xe) (hc : X.calm = true) (hi : SI fx X Wx tg e mi) (hg : SG fx X tg sl g) (hb : SSs fx X Wx sts body)
    (hs : ∀ x, foldedSetIterable e X.env x = pure x := by intro _; rfl) : SS fx X Wx (.For tg e sts [] pos) (mFor mi g body) := by
  obtain ⟨wi, pi, qi⟩ := hi.ex
  obtain ⟨tg', pg, qg⟩ := hg.ex
  obtain ⟨tb, pb, qb⟩ := hb.ex
  refine ⟨_, ps_for hp hc pi pg pb hs, fun F G H sd σ D S h => qi F G H sd σ _ S ?_⟩
  unfold mFor mThen at h
  cases ei : mi sd with
  | fail => rw [ei] at h; exact h
  | exc x sd1 => rw [ei] at h; exact fun F' G' H' c d e1 e2 S q => h F' G' H' σ c d e1 e2 S q
  | ok items sd1 =>
    rw [ei] at h
    intro F1 G1 H1 J e1 e2 S1 wk
    have h := PoS.mono e1 e2 h
    refine ⟨fun i m σ H => m = items.length - i ∧ i ≤ items.length ∧ ∃ F' G' sd', Same F1 F' ∧ Same G1 G' ∧ SR (wd X) fx F' G' H sd' σ ∧ PoS (wd X) fx F' G' Wx D (forGo g body (items.drop i) sd'), ⟨items.length, by simp, Nat.zero_le _, F1, G1, sd1, Same.refl _, Same.refl _, S1, by simpa using h⟩, ?_⟩
    rintro i m σ2 H2 ⟨rfl, hi, F2, G2, sd2, j1, j2, S2, h2⟩
    obtain ⟨w1, w2⟩ := wk fx i F2 G2 H2 sd2 σ2 j1 j2 S2
    by_cases hlt : i < items.length
    · obtain ⟨go, y⟩ := w2 items[i] (List.getElem?_eq_getElem hlt)
      refine .inr ⟨go, fun σ' H' => ∃ F' G' sd', Same F1 F' ∧ Same G1 G' ∧ SR (wd X) fx F' G' H' sd' σ' ∧ PoS (wd X) fx F' G' Wx D (forGo g body (items.drop (i + 1)) sd'), fun σ' H' n => ⟨items.length - (i + 1), by omega, rfl, hlt, n⟩, fun x H3 yx => ?_⟩
      obtain ⟨F3, G3, j3, j4, S3, r3⟩ := y x H3 yx
      rw [List.drop_eq_getElem_cons hlt] at h2
      unfold forGo at h2
      have h2 := PoS.mono j3 j4 h2
      cases eg : g items[i] sd2 with
      | none => rw [eg] at h2; exact h2.elim
      | some sd3 =>
        rw [eg] at h2
        refine qg F3 G3 H3 sd2 sd3 σ2 items[i] x _ S3 r3 eg fun F4 G4 H4 σ4 j5 j6 S4 _ => ?_
        have h2 := PoS.mono j5 j6 h2
        refine qb F4 G4 H4 sd3 σ4 _ S4 ?_
        dsimp only at h2
        cases eb : body sd3 with
        | nx sd5 =>
          rw [eb] at h2
          exact fun F5 G5 H5 σ5 j7 j8 S5 => ⟨F5, G5, sd5, ((j1.trans j3).trans j5).trans j7, ((j2.trans j4).trans j6).trans j8, S5, PoS.mono j7 j8 h2⟩
        | ct sd5 =>
          rw [eb] at h2
          exact fun F5 G5 H5 σ5 j7 j8 S5 => ⟨F5, G5, sd5, ((j1.trans j3).trans j5).trans j7, ((j2.trans j4).trans j6).trans j8, S5, PoS.mono j7 j8 h2⟩
        | bk sd5 => rw [eb] at h2; exact h2
        | ret r sd5 => rw [eb] at h2; exact h2
        | exc x sd5 => rw [eb] at h2; exact h2
        | fail => rw [eb] at h2; exact h2
    · have e : i = items.length := by omega
      subst e
      rw [List.drop_length] at h2
      exact .inl ⟨w1 rfl, h2 F2 G2 H2 σ2 (Same.refl _) (Same.refl _) S2⟩

/-! ### while -/
def whileGo (mc : M Bool) (body : MS) : Nat → MS
  | 0, _ => .fail
  | n + 1, sd => match mc sd with
    | .ok true sd1 => match body sd1 with
      | .nx sd2 => whileGo mc body n sd2
      | .ct sd2 => whileGo mc body n sd2
      | .bk sd2 => .nx sd2
      | r => r
    | .ok false sd1 => .nx sd1
    | .exc x sd1 => .exc x sd1
    | .fail => .fail
theorem ss_while {mc : M Bool} {body : MS} (fuel : Nat) (hp : PassesOwn (model X.prog X.w) X.A X.env X.xe) (hc : ST fx X Wx c mc) (hb : SSs fx X Wx sts body) : SS fx X Wx (.While c sts [] pos) (whileGo mc body fuel) := by
  obtain ⟨tc, pc, qc⟩ := hc.ex
  obtain ⟨tb, pb, qb⟩ := hb.ex
  refine ⟨_, ps_while hp pc pb, fun F G H sd σ D S h => ?_⟩
  refine ⟨fun n σ H => ∃ F' G' sd', SR (wd X) fx F' G' H sd' σ ∧ PoS (wd X) fx F' G' Wx D (whileGo mc body n sd'), ⟨fuel, F, G, sd, S, h⟩, ?_⟩
  rintro n σ1 H1 ⟨F1, G1, sd1, S1, h1⟩
  refine qc F1 G1 H1 sd1 σ1 _ S1 ?_
  cases n with
  | zero => exact h1.elim
  | succ n =>
    unfold whileGo at h1
    cases ec : mc sd1 with
    | fail => rw [ec] at h1; exact h1
    | exc x sd2 => rw [ec] at h1; exact fun F' G' H' c d e1 e2 S q => h1 F' G' H' σ1 c d e1 e2 S q
    | ok t sd2 =>
      rw [ec] at h1
      intro F2 G2 H2 b e1 e2 S2 qb'
      subst qb'
      have h1 := PoS.mono e1 e2 h1
      cases t with
      | false =>
        rw [if_neg Bool.false_ne_true]
        exact h1 F2 G2 H2 σ1 (Same.refl _) (Same.refl _) S2
      | true =>
        rw [if_pos rfl]
        refine ⟨fun σ' H' => ∃ F' G' sd', SR (wd X) fx F' G' H' sd' σ' ∧ PoS (wd X) fx F' G' Wx D (whileGo mc body n sd'), fun σ' H' k => ⟨n, Nat.lt_succ_self n, k⟩, qb F2 G2 H2 sd2 σ1 _ S2 ?_⟩
        dsimp only at h1
        cases eb : body sd2 with
        | nx sd5 => rw [eb] at h1; exact fun F5 G5 H5 σ5 j7 j8 S5 => ⟨F5, G5, sd5, S5, PoS.mono j7 j8 h1⟩
        | ct sd5 => rw [eb] at h1; exact fun F5 G5 H5 σ5 j7 j8 S5 => ⟨F5, G5, sd5, S5, PoS.mono j7 j8 h1⟩
        | bk sd5 => rw [eb] at h1; exact h1
        | ret r sd5 => rw [eb] at h1; exact h1
        | exc x sd5 => rw [eb] at h1; exact h1
        | fail => rw [eb] at h1; exact h1

/-! ### x[i] = e, x an own list (dict): by values -/
structure SetS (X : Cx) (kd : D → Bool) (g : D → D → D → Option D) (t : TSet) : Prop where
  st : PSet X t
  go : ∀ F H p x k d v w x' (Q : Hp → Prop), Same F H → F p = none → OwnO (wd X) F H p x → kd x = true → Rep (wd X) H k w → Rep (wd X) F d v → g x k d = some x' → (∀ o, OwnO (wd X) F (upd H p o) p x' → Q (upd H p o)) → t (.ref p) w v H Q
def mSetIx (kd : D → Bool) (g : D → D → D → Option D) (i : Nat) (mi me : M RV) : MS := mThen (mBind me fun r => mBind (mShare r) fun d => mBind (mOwn i) fun _ => mBind mi fun r => mBind (mRead r.keep) fun k => mBind (mOwn i) fun x => if kd x then mBind (mGet (g x k d)) fun x' => mPutOwn i x' else mFail) fun _ => mSkip
theorem Po.share {α β : Type} {W : Wd} {F G H : Hp} {σ : St} {Rl : Hp → Hp → Hp → List SV → α → β → Prop} {Q : β → Hp → Prop} {r : RV} {v : V} {k : D → M α} {sd : List SV} (S : SR W fx F G H sd σ) (q : RVR W fx F G H sd σ r.keep v) (h : Po W fx F G σ Wx Rl Q ((mBind (mShare r) k) sd)) :
    ∃ d sd' F' G', Same F F' ∧ Same G G' ∧ SR W fx F' G' H sd' σ ∧ Rep W F' d v ∧ Po W fx F' G' σ Wx Rl Q (k d sd') := by
  unfold mBind at h
  cases e : mShare r sd with
  | fail => rw [e] at h; exact h.elim
  | exc x s =>
    exfalso
    unfold mShare at e
    split at e <;> first | (cases e; done) | (split at e <;> cases e)
  | ok d sd' =>
    rw [e] at h
    obtain ⟨F', G', e1, e2, S', p⟩ := share_ok S q e
    exact ⟨d, sd', F', G', e1, e2, S', p, Po.mono e1 e2 h⟩
theorem mThen_po {α : Type} {W : Wd} {F G : Hp} {σ : St} {m : M α} {k : α → MS} {D : Ends} {sd : List SV} {β : Type} {Rl : Hp → Hp → Hp → List SV → α → β → Prop} (h : PoS W fx F G Wx D (mThen m k sd)) : Po W fx F G σ Wx Rl (fun b H => ∃ a sd' F' G', Same F F' ∧ Same G G' ∧ SR W fx F' G' H sd' σ ∧ Rl F' G' H sd' a b ∧ PoS W fx F' G' Wx D (k a sd')) (m sd) := by
  unfold mThen at h
  cases e : m sd with
  | fail => rw [e] at h; exact h
  | exc x s => rw [e] at h; exact fun F' G' H' c d e1 e2 S q => h F' G' H' σ c d e1 e2 S q
  | ok a sd' =>
    rw [e] at h
    exact fun F' G' H' b e1 e2 S q => ⟨a, sd', F', G', e1, e2, S, q, PoS.mono e1 e2 h⟩
theorem ss_setIx {i : Nat} {x : Str} {p1 p2 : Pos} {kd : D → Bool} {g : D → D → D → Option D} {t : TSet} {mi me : M RV} (hset : SetS X kd g t) (hN : X.N[i]? = some x) (hv : Vis X.env.scope x) (hi : SE fx X Wx b mi) (he : SE fx X Wx e me)
    (hd : (x == ("__debug__" : Str)) = false := by decide) (hcd : (x == ("__classdict__" : Str)) = false := by decide)
    (ha : ∀ v, assign (.Subscript (.Name x p1) b p2) X.env v = (do
      let ov ← holding [v] (eval (.Name x p1) X.env)
      let iv ← holding [v, ov] (eval b X.env)
      standAt p2
      holding [v, ov, iv] (setItem ov iv v)
      release [v, ov, iv] []) := by intro _; rfl)
    (hs : swapsWithSole [.Subscript (.Name x p1) b p2] e pos.line X.env = pure false := by rfl) (hw : swappedStores [.Subscript (.Name x p1) b p2] e X.env = pure none := by rfl)
    (h1 : (assignEach [.Subscript (.Name x p1) b p2] X.env).map (·.2) = [assign (.Subscript (.Name x p1) b p2) X.env] := by rfl) :
    SS fx X Wx (.Assign [.Subscript (.Name x p1) b p2] e pos) (mSetIx kd g i mi me) := by
  obtain ⟨te, pe, qe⟩ := he.ex
  obtain ⟨ti, pi, qi⟩ := hi.ex
  refine ⟨_, ps_asg pe (pg_sub (pe_var hN hv hd hcd) pi hset.st ha) hs hw h1, fun F G H sd σ D S h => ?_⟩
  have h := mThen_po (σ := σ) (β := Unit) (Rl := fun _ _ _ _ _ _ => True) h
  refine one qe S h fun F1 G1 H1 sd1 ra v e1 e2 S1 r1 h => ?_
  obtain ⟨d, sd2, F2, G2, e3, e4, S2, rd, h⟩ := h.share S1 r1
  obtain ⟨_, _, p0, _, _, hw', _, _, h⟩ := h.own S2
  refine ⟨.ref p0, hw', one qi S2 h fun F3 G3 H3 sd3 rk u e5 e6 S3 r3 h => ?_⟩
  obtain ⟨k, k1, h⟩ := h.read
  obtain ⟨x0, s0, p, e0, hs0, hp, ow, hG, h⟩ := h.own S3
  rw [hw'] at hp; cases hp
  split at h
  · rename_i hk
    obtain ⟨x', k2, h⟩ := h.getB
    obtain ⟨sd4, S4, h⟩ := Po.putOwn (k := fun u => mPure u) S3 e0 hs0 hw' (d' := x') (by
      unfold mBind
      cases em : mPutOwn i x' sd3 with
      | ok u s => rw [em] at h; exact h
      | fail => rw [em] at h; exact h
      | exc x s => rw [em] at h; exact h)
    refine hset.go F3 H3 p0 x0 k d v u x' _ S3.fh (S3.fg.free hG) ow hk (r3.read S3 k1) (rd.keep e5) k2 fun o ow' => ?_
    obtain ⟨a, sd', F', G', j1, j2, S', _, h⟩ := h F3 G3 _ () (Same.refl _) (Same.refl _) (S4 o ow') True.intro
    exact h F' G' _ σ (Same.refl _) (Same.refl _) S'
  · exact h.elim
def gSetL : D → D → D → Option D
  | .lst xs, .int k, d => (ixN xs.length k).map fun j => .lst (xs.set j d)
  | _, _, _ => none
theorem st_setL : SetS X D.isLst gSetL rSetL := ⟨set_list, fun F H p x k d v w x' Q e hF ow hk rk rd h K => by
  unfold gSetL at h
  split at h
  · rename_i xs k0
    cases ei : ixN xs.length k0 with
    | none => rw [ei] at h; cases h
    | some j =>
      rw [ei] at h
      cases h
      obtain ⟨us, h1, h2⟩ := ow
      obtain rfl := rk.int_inv
      exact ⟨p, us, k0, j, rfl, rfl, h1, by rw [← h2.n]; exact ei, K _ ⟨_, upd_same, h2.set j rd⟩⟩
  · cases h⟩
end
end Av

/-! defs and their calls -/
namespace Av
open PySem PySem.Spec PyProof.Rows L2

/-- a def's end: its value (shared or fresh), the final contents of what was handed over -/
inductive FR where
  | ok (r : RV) (outs : List D)
  | exc (x : Xn) (outs : List D)
  | fail
abbrev MF := List SV → FR
def outOf (sd : List SV) (i : Nat) : Option D := match sd[i]?.getD .no with
  | .io d => some d
  | _ => none
def outsOf (sd : List SV) : List Nat → Option (List D)
  | [] => some []
  | i :: is => (outOf sd i).bind fun d => (outsOf sd is).map fun ds => d :: ds
/-- a result that may leave the frame -/
def leaves (sd : List SV) : RV → Option RV
  | .val d => some (.val d)
  | .fresh d => some (.fresh d)
  | .bval d => if d.imm then some (.val d) else none
  | .slot i => match sd[i]?.getD .no with
    | .own d => some (.fresh d)
    | .sh d => some (.val d)
    | .bor d => if d.imm then some (.val d) else none
    | _ => none
def finF (ios : List Nat) : RS → FR
  | .ret r sd => match leaves sd r, outsOf sd ios with
    | some r, some os => .ok r os
    | _, _ => .fail
  | .nx sd => match outsOf sd ios with
    | some os => .ok (.val .non) os
    | none => .fail
  | .exc x sd => match outsOf sd ios with
    | some os => .exc x os
    | none => .fail
  | _ => .fail
/-- np parameters, n names in all -/
def mDef (np n : Nat) (ios : List Nat) (body : MS) : MF := fun args => if args.length = np then finF ios (body (args ++ List.replicate (n - np) .no)) else .fail
def ResR (W : Wd) (F G H H0 : Hp) (r : RV) (v : V) : Prop := match r with
  | .val d => Rep W F d v
  | .fresh d => ∃ a, v = .ref a ∧ G a = none ∧ H0 a = none ∧ OwnO W F H a d
  | _ => False
def OutsR (W : Wd) (F G H : Hp) (pin : List (Nat × Addr)) (ios : List Nat) (outs : List D) : Prop := ios.length = outs.length ∧ ∀ (k i : Nat) d, ios[k]? = some i → outs[k]? = some d → ∃ a, (i, a) ∈ pin ∧ G a = none ∧ OwnO W F H a d
/-- the promise of a def whose run is mf -/
def spD (W : Wd) (ios : List Nat) (mf : MF) : Sp := fun vs H Q E => ∃ (F G : Hp) (pin : List (Nat × Addr)) (svs : List SV),
  SR W ⟨H, F, G, pin, [], none⟩ F G H svs (vs.map some) ∧ (∀ a o, H a = some o → (∀ i, (i, a) ∉ pin) → G a = some o) ∧ (∀ i ∈ ios, ∃ d, svs[i]? = some (.io d)) ∧
  match mf svs with
  | .ok r outs => ∀ v F' G' H', HR ⟨H, F, G, pin, [], none⟩ F' G' H' → ResR W F' G' H' H r v → OutsR W F' G' H' pin ios outs → Q v H'
  | .exc x outs => ∀ c d F' G' H', HR ⟨H, F, G, pin, [], none⟩ F' G' H' → ExR W F' H' x c d → OutsR W F' G' H' pin ios outs → E c d H'
  | .fail => False
section
variable {fx : Fx} {W : Wd}
theorem outs_ok {F G H : Hp} {sd : List SV} {σ : L2.St} (S : SR W fx F G H sd σ) : ∀ {ios : List Nat} {outs : List D}, outsOf sd ios = some outs → OutsR W F G H fx.pin ios outs
  | [], outs, h => by cases h; exact ⟨rfl, fun k i d h => by simp at h⟩
  | i :: is, outs, h => by
    unfold outsOf at h
    cases e1 : outOf sd i with
    | none => rw [e1] at h; cases h
    | some d =>
      rw [e1] at h
      cases e2 : outsOf sd is with
      | none => rw [e2] at h; cases h
      | some ds =>
        rw [e2] at h
        cases h
        obtain ⟨h1, h2⟩ := outs_ok S e2
        refine ⟨by simp [h1], fun k j d' k1 k2 => ?_⟩
        cases k with
        | succ k => exact h2 k j d' (by simpa using k1) (by simpa using k2)
        | zero =>
          simp at k1 k2
          subst k1 k2
          unfold outOf at e1
          cases e3 : sd[i]? with
          | none => rw [e3] at e1; cases e1
          | some s =>
            rw [e3] at e1
            cases s <;> try (cases e1; done)
            cases e1
            obtain ⟨a, q0, q1, q2, q3⟩ := S.slot i _ e3
            exact ⟨a, q0, q2, q3⟩
theorem leaves_ok {F G H : Hp} {sd : List SV} {σ : L2.St} {r r' : RV} {v : V} (S : SR W fx F G H sd σ) (q : RVR W fx F G H sd σ r v) (h : leaves sd r = some r') : ResR W F G H fx.H0 r' v := by
  cases r with
  | val d => cases h; exact q
  | fresh d => cases h; obtain ⟨a, h1, h2, h3, h4, _⟩ := q; exact ⟨a, h1, h2, h3, h4⟩
  | bval d =>
    unfold leaves at h
    dsimp only at h
    split at h
    · rename_i hi; cases h; exact Rep.imm S.tup (Rep.keep S.gh q) hi
    · cases h
  | slot i =>
    unfold leaves at h
    dsimp only at h
    have q : σ[i]? = some (some v) := q
    cases e : sd[i]? with
    | none => rw [e] at h; cases h
    | some s =>
      rw [e] at h
      have k := S.slot i s e
      cases s with
      | own d => cases h; obtain ⟨a, h1, h2, h3, h4⟩ := k; rw [q] at h1; cases h1; exact ⟨a, rfl, h2, h3, h4⟩
      | sh d => cases h; obtain ⟨a, h1, h2⟩ := k; rw [q] at h1; cases h1; exact h2
      | bor d =>
        dsimp only [Option.getD_some] at h
        obtain ⟨a, h1, h2⟩ := k; rw [q] at h1; cases h1
        split at h
        · rename_i hi; cases h; exact Rep.imm S.tup (h2.keep S.gh) hi
        · cases h
      | no => cases h
      | exn => cases h
      | io d => cases h
/-- the frame at the entry: the parameters, then the names without a value -/
theorem SR.start {F G H : Hp} {svs : List SV} {vs : List V} {n : Nat} (S : SR W fx F G H svs (vs.map some)) : SR W fx F G H (svs ++ List.replicate n .no) (vs.map some ++ List.replicate n none) where
  toHR := S.toHR
  len := by have := S.len; simp at this ⊢; exact this
  slot := fun i s e => by
    have hl := S.len
    by_cases hi : i < svs.length
    · rw [List.getElem?_append_left hi] at e
      have q := S.slot i s e
      have es : (vs.map some ++ List.replicate n none)[i]? = (vs.map some)[i]? := List.getElem?_append_left (by rw [← hl]; exact hi)
      cases s with
      | no => exact q
      | exn => obtain ⟨w, h0, h1⟩ := q; exact ⟨w, h0, es.trans h1⟩
      | sh d => obtain ⟨w, h1, h2⟩ := q; exact ⟨w, es.trans h1, h2⟩
      | bor d => obtain ⟨w, h1, h2⟩ := q; exact ⟨w, es.trans h1, h2⟩
      | own d => obtain ⟨w, h1, h2⟩ := q; exact ⟨w, es.trans h1, h2⟩
      | io d => obtain ⟨w, h0, h1, h2⟩ := q; exact ⟨w, h0, es.trans h1, h2⟩
    · rw [List.getElem?_append_right (by omega), List.getElem?_replicate] at e
      split at e
      · cases e; exact True.intro
      · cases e
  apart := fun i j s s' a e1 e2 m1 m2 p1 p2 => by
    have low : ∀ {i : Nat} {s : SV}, (svs ++ List.replicate n SV.no)[i]? = some s → s.mine = true → i < svs.length := fun {i s} e m => by
      by_cases hi : i < svs.length
      · exact hi
      · rw [List.getElem?_append_right (by omega), List.getElem?_replicate] at e
        split at e
        · cases e; cases m
        · cases e
    have h1 := low e1 m1
    have h2 := low e2 m2
    have hl := S.len
    rw [List.getElem?_append_left h1] at e1
    rw [List.getElem?_append_left h2] at e2
    rw [List.getElem?_append_left (by rw [← hl]; exact h1)] at p1
    rw [List.getElem?_append_left (by rw [← hl]; exact h2)] at p2
    exact S.apart i j s s' a e1 e2 m1 m2 p1 p2
  free := fun a o hm i s e m p => by
    have hi : i < svs.length := by
      by_cases hi : i < svs.length
      · exact hi
      · rw [List.getElem?_append_right (by omega), List.getElem?_replicate] at e
        split at e
        · cases e; cases m
        · cases e
    have hl := S.len
    rw [List.getElem?_append_left hi] at e
    rw [List.getElem?_append_left (by rw [← hl]; exact hi)] at p
    exact S.free a o hm i s e m p
end
theorem okN {P : Program} {w : World} {K : PySem.W.Frag} {mg : Str → Option Value} {base : Heap} {x qual : Str} {st : Stmt} {f : Addr} {fd : FuncData} {N ps : List Str} {k : Nat} {sp : Sp} (F : Fun K x qual st f fd) (S : FnScope N ps (defScope st)) (len : ∀ vs H Q E, sp vs H Q E → vs.length = ps.length)
    (hbody : ∀ (cdv : Value) (A : Around) (outer : List Env) (s : Shared) (H : Hp) (vs : List V) (Q : VK) (E : XK), Room k (A.deeper (envOfC qual (defScope st) s.heap.objs.size f cdv)) → sp vs H Q E →
      ∃ t, PSs (cxOf (L2N.CX P w) P w K mg base N qual (defScope st) f cdv A outer s H E) (defBody st) t ∧ t { nx := fun _ H' => Q .non H', rt := Q } (L2.start N vs) H) : FnOk P w K mg base (L2N.CX P w) (k + 1) f fd ps sp := by
  obtain ⟨oc, od, kV, doc, pm, an, cdv, ct, osl, rfl, lk, hcd⟩ := F.ex
  exact fn_of lk hcd S len fun A outer s H vs Q E hr hsp => hbody cdv A outer s H vs Q E hr hsp
/-- THE RULE: a def by the run of its body -/
theorem def_ok {P : Program} {w : World} {K : PySem.W.Frag} {mg : Str → Option Value} {base : Heap} {x qual : Str} {st : Stmt} {f : Addr} {fd : FuncData} {N ps : List Str} {k : Nat} {ios : List Nat} {body : MS} (F : Fun K x qual st f fd) (S : FnScope N ps (defScope st))
    (hbody : ∀ (cdv : Value) (A : Around) (outer : List Env) (s : Shared) (H : Hp) (E : XK) (fx : Fx), Room k (A.deeper (envOfC qual (defScope st) s.heap.objs.size f cdv)) →
      SSs fx (cxOf (L2N.CX P w) P w K mg base N qual (defScope st) f cdv A outer s H E) (fun c d _ H => E c d H) (defBody st) body) :
    FnOk P w K mg base (L2N.CX P w) (k + 1) f fd ps (spD ⟨K, mg⟩ ios (mDef ps.length N.length ios body)) := by
  have hpl : ps.length ≤ N.length := by have := congrArg List.length S.pre; rw [List.length_take] at this; omega
  have hlen : ∀ vs H Q E, spD ⟨K, mg⟩ ios (mDef ps.length N.length ios body) vs H Q E → vs.length = ps.length := fun vs H Q E h => by
    obtain ⟨F0, G0, pin, svs, SR0, _, _, h⟩ := h
    unfold mDef at h
    by_cases hl : svs.length = ps.length
    · have := SR0.len; rw [List.length_map] at this; omega
    · rw [if_neg hl] at h; exact h.elim
  refine okN F S hlen fun cdv A outer s H vs Q E hr h => ?_
  have hl := hlen _ _ _ _ h
  obtain ⟨F0, G0, pin, svs, SR0, full, hio, h⟩ := h
  have hsl : svs.length = ps.length := by have := SR0.len; rw [List.length_map] at this; omega
  unfold mDef at h
  rw [if_pos hsl] at h
  obtain ⟨t, pt, qt⟩ := (hbody cdv A outer s H E ⟨H, F0, G0, pin, [], none⟩ hr).ex
  refine ⟨t, pt, ?_⟩
  have S1 := SR0.start (n := N.length - ps.length)
  have est : L2.start N vs = vs.map some ++ List.replicate (N.length - ps.length) none := by
    unfold L2.start
    rw [hl]
  rw [est]
  refine qt F0 G0 H _ _ _ S1 ?_
  cases eb : body (svs ++ List.replicate (N.length - ps.length) SV.no) with
  | ret r sd =>
    rw [eb] at h
    unfold finF at h
    dsimp only at h
    cases el : leaves sd r with
    | none => rw [el] at h; exact h.elim
    | some r' =>
      cases eo : outsOf sd ios with
      | none => rw [el, eo] at h; exact h.elim
      | some os =>
        rw [el, eo] at h
        exact fun F' G' H' σ' v e1 e2 S' q => h v F' G' H' S'.toHR (leaves_ok S' q el) (outs_ok S' eo)
  | nx sd =>
    rw [eb] at h
    unfold finF at h
    dsimp only at h
    cases eo : outsOf sd ios with
    | none => rw [eo] at h; exact h.elim
    | some os =>
      rw [eo] at h
      exact fun F' G' H' σ' e1 e2 S' => h .non F' G' H' S'.toHR .non (outs_ok S' eo)
  | exc x sd =>
    rw [eb] at h
    unfold finF at h
    dsimp only at h
    cases eo : outsOf sd ios with
    | none => rw [eo] at h; exact h.elim
    | some os =>
      rw [eo] at h
      exact fun F' G' H' σ' c d e1 e2 S' q => h c d F' G' H' S'.toHR q (outs_ok S' eo)
  | bk sd => rw [eb] at h; exact h.elim
  | ct sd => rw [eb] at h; exact h.elim
  | fail => rw [eb] at h; exact h.elim
end Av

/-! a def is called -/
namespace Av
open PySem L2
/-- how an argument is handed on. io: it may be changed there -/
def passOne (sd : List SV) (io : Bool) (r : RV) : Option SV := if io then
    match r with
    | .slot j => match sd[j]?.getD .no with
      | .own d => some (.io d)
      | .io d => some (.io d)
      | _ => none
    | _ => none
  else
    match r with
    | .val d => some (.sh d)
    | .fresh d => some (.sh d)
    | .bval d => some (if d.imm then .sh d else .bor d)
    | .slot j => match sd[j]?.getD .no with
      | .own d => some (.bor d)
      | .io d => some (.bor d)
      | .sh d => some (.sh d)
      | .bor d => some (.bor d)
      | .no => none
      | .exn => none
def passAll (sd : List SV) (ios : List Nat) : Nat → List RV → Option (List SV)
  | _, [] => some []
  | i, r :: rs => (passOne sd (ios.contains i) r).bind fun s => (passAll sd ios (i + 1) rs).map fun ss => s :: ss
/-- the slots of the arguments that may be changed -/
def ioSlots (rs : List RV) : List Nat → Option (List Nat)
  | [] => some []
  | i :: is => match rs[i]? with
    | some (.slot j) => (ioSlots rs is).map fun js => j :: js
    | _ => none
/-- no slot is handed over twice, none is lent beside -/
def apartOk (rs : List RV) (ios js : List Nat) : Bool := decide js.Nodup && (List.range rs.length).all fun i => ios.contains i || match rs[i]? with
  | some (.slot j) => !js.contains j
  | _ => true
def updSV (ws : List (Nat × D)) (j : Nat) (s : SV) : SV := match ws.lookup j with
  | some d => match s with
    | .own _ => .own d
    | .io _ => .io d
    | s => s
  | none => s
def wb (ws : List (Nat × D)) : Nat → List SV → List SV
  | _, [] => []
  | n, s :: r => updSV ws n s :: wb ws (n + 1) r
theorem wb_get (ws : List (Nat × D)) : ∀ (n : Nat) (sd : List SV) (j : Nat), (wb ws n sd)[j]? = sd[j]?.map (updSV ws (n + j))
  | n, [], j => by simp [wb]
  | n, s :: r, 0 => by simp [wb]
  | n, s :: r, j + 1 => by
    simp only [wb, List.getElem?_cons_succ]
    rw [wb_get ws (n + 1) r j]
    congr 2
    omega
theorem wb_len (ws : List (Nat × D)) : ∀ (n : Nat) (sd : List SV), (wb ws n sd).length = sd.length
  | n, [] => rfl
  | n, s :: r => by simp [wb, wb_len ws (n + 1) r]
def mCall (ios : List Nat) (mf : MF) (ma : M (List RV)) : M RV := mBind ma fun rs => fun sd => match passAll sd ios 0 rs, ioSlots rs ios with
  | some svs, some js => if apartOk rs ios js then
      match mf svs with
      | .ok r outs => .ok r (wb (js.zip outs) 0 sd)
      | .exc x outs => .exc x (wb (js.zip outs) 0 sd)
      | .fail => .fail
    else .fail
  | _, _ => .fail
theorem passAll_get {sd : List SV} {ios : List Nat} : ∀ {rs : List RV} {n : Nat} {svs : List SV}, passAll sd ios n rs = some svs → svs.length = rs.length ∧ ∀ (i : Nat) s, svs[i]? = some s → ∃ r, rs[i]? = some r ∧ passOne sd (ios.contains (n + i)) r = some s
  | [], n, svs, h => by cases h; exact ⟨rfl, fun i s e => by simp at e⟩
  | r :: rs, n, svs, h => by
    unfold passAll at h
    cases e1 : passOne sd (ios.contains n) r with
    | none => rw [e1] at h; cases h
    | some s =>
      rw [e1] at h
      cases e2 : passAll sd ios (n + 1) rs with
      | none => rw [e2] at h; cases h
      | some ss =>
        rw [e2] at h
        cases h
        obtain ⟨h1, h2⟩ := passAll_get e2
        refine ⟨by simp [h1], fun i s' e => ?_⟩
        cases i with
        | zero => simp at e; subst e; exact ⟨r, rfl, e1⟩
        | succ i =>
          obtain ⟨r', k1, k2⟩ := h2 i s' (by simpa using e)
          exact ⟨r', by simpa using k1, by rw [show n + (i + 1) = n + 1 + i by omega]; exact k2⟩
theorem ioSlots_get {rs : List RV} : ∀ {ios js : List Nat}, ioSlots rs ios = some js → js.length = ios.length ∧ ∀ (k i j : Nat), ios[k]? = some i → js[k]? = some j → rs[i]? = some (.slot j)
  | [], js, h => by cases h; exact ⟨rfl, fun k i j e => by simp at e⟩
  | i :: is, js, h => by
    unfold ioSlots at h
    split at h
    · rename_i j e1
      cases e2 : ioSlots rs is with
      | none => rw [e2] at h; cases h
      | some ss =>
        rw [e2] at h
        cases h
        obtain ⟨h1, h2⟩ := ioSlots_get e2
        refine ⟨by simp [h1], fun k i' j' k1 k2 => ?_⟩
        cases k with
        | zero => simp at k1 k2; subst k1 k2; exact e1
        | succ k => exact h2 k i' j' (by simpa using k1) (by simpa using k2)
    · cases h
section
variable {fx : Fx} {W : Wd} {F G H : Hp} {sd : List SV} {σ : L2.St} {rs : List RV} {vs : List V} {ios js : List Nat} {svs : List SV}
/-- which address is handed over for which parameter -/
def PinOk (sd : List SV) (σ : L2.St) (ios js : List Nat) (pin : List (Nat × Addr)) : Prop := pin.length = ios.length ∧ ∀ (k i : Nat) (a : Addr), pin[k]? = some (i, a) → ios[k]? = some i ∧ ∃ j s, js[k]? = some j ∧ sd[j]? = some s ∧ s.mine = true ∧ σ[j]? = some (some (V.ref a))
/-- the pins are there -/
theorem pins_there (S : SR W fx F G H sd σ) (q : RVRs W fx F G H sd σ rs vs) (hp : passAll sd ios 0 rs = some svs) (hj : ioSlots rs ios = some js) : ∃ pin, PinOk sd σ ios js pin := by
  obtain ⟨hl, hg⟩ := ioSlots_get hj
  obtain ⟨pl, pg⟩ := passAll_get hp
  -- each one by itself
  have each : ∀ (k i : Nat), ios[k]? = some i → ∃ a j s, js[k]? = some j ∧ sd[j]? = some s ∧ s.mine = true ∧ σ[j]? = some (some (V.ref a)) := fun k i hk => by
    have hkj : k < js.length := by rw [hl]; exact (List.getElem?_eq_some_iff.mp hk).1
    have hr := hg k i js[k] hk (List.getElem?_eq_getElem hkj)
    have hi : i < svs.length := by rw [pl]; exact (List.getElem?_eq_some_iff.mp hr).1
    obtain ⟨r, h1, h2⟩ := pg i svs[i] (List.getElem?_eq_getElem hi)
    rw [hr] at h1; cases h1
    have hc : ios.contains (0 + i) = true := by
      rw [Nat.zero_add]
      exact List.contains_iff_mem.mpr (List.mem_of_getElem? hk)
    rw [hc] at h2
    unfold passOne at h2
    rw [if_pos rfl] at h2
    dsimp only at h2
    cases e : sd[js[k]]? with
    | none => rw [e] at h2; cases h2
    | some s =>
      rw [e] at h2
      have qs := S.slot _ s e
      cases s with
      | own d => obtain ⟨a, a1, _⟩ := qs; exact ⟨a, js[k], _, List.getElem?_eq_getElem hkj, e, rfl, a1⟩
      | io d => obtain ⟨a, _, a1, _⟩ := qs; exact ⟨a, js[k], _, List.getElem?_eq_getElem hkj, e, rfl, a1⟩
      | no => cases h2
      | exn => cases h2
      | sh d => cases h2
      | bor d => cases h2
  clear hj hg hp pg
  induction ios generalizing js with
  | nil => exact ⟨[], rfl, fun k i a e => by simp at e⟩
  | cons i is ih =>
    cases js with
    | nil => simp at hl
    | cons j js =>
      obtain ⟨a, j', s, h1, h2, h3, h4⟩ := each 0 i rfl
      obtain ⟨pin, p1, p2⟩ := ih (js := js) (by simpa using hl) fun k i' hk => by
        obtain ⟨a, j, s, h1, h2⟩ := each (k + 1) i' (by simpa using hk)
        exact ⟨a, j, s, by simpa using h1, h2⟩
      refine ⟨(i, a) :: pin, by simp [p1], fun k i' a' e => ?_⟩
      cases k with
      | zero => simp at e; obtain ⟨rfl, rfl⟩ := e; exact ⟨rfl, j', s, h1, h2, h3, h4⟩
      | succ k =>
        obtain ⟨k1, j'', s', k2, k3⟩ := p2 k i' a' (by simpa using e)
        exact ⟨by simpa using k1, j'', s', by simpa using k2, k3⟩
theorem PinOk.mem {pin : List (Nat × Addr)} (P : PinOk sd σ ios js pin) {i : Nat} {a : Addr} (h : (i, a) ∈ pin) : ∃ (k j : Nat) (s : SV), ios[k]? = some i ∧ js[k]? = some j ∧ pin[k]? = some (i, a) ∧ sd[j]? = some s ∧ s.mine = true ∧ σ[j]? = some (some (V.ref a)) := by
  obtain ⟨k, hk⟩ := List.getElem?_of_mem h
  obtain ⟨h1, j, s, h2, h3, h4, h5⟩ := P.2 k i a hk
  exact ⟨k, j, s, h1, h2, hk, h3, h4, h5⟩
/-- the steady heap that the callee sees: all but what it is handed over -/
def lent (H : Hp) (pin : List (Nat × Addr)) : Hp := fun a => if (pin.map (·.2)).contains a then none else H a
theorem lent_pin {pin : List (Nat × Addr)} {i : Nat} {a : Addr} (h : (i, a) ∈ pin) : lent H pin a = none := by
  unfold lent
  rw [if_pos (List.contains_iff_mem.mpr (List.mem_map.mpr ⟨(i, a), h, rfl⟩))]
theorem lent_not {pin : List (Nat × Addr)} {a : Addr} (h : ∀ i, (i, a) ∉ pin) : lent H pin a = H a := by
  unfold lent
  rw [if_neg]
  intro hc
  obtain ⟨⟨i, b⟩, hm, e⟩ := List.mem_map.mp (List.contains_iff_mem.mp hc)
  have e : b = a := e
  subst e
  exact h i hm
theorem mine_G (S : SR W fx F G H sd σ) {j : Nat} {s : SV} {a : Addr} (e : sd[j]? = some s) (m : s.mine = true) (p : σ[j]? = some (some (V.ref a))) : G a = none ∧ ∃ d, OwnO W F H a d := by
  have q := S.slot j s e
  cases s with
  | own d => obtain ⟨b, h1, h2, h3, h4⟩ := q; rw [p] at h1; cases h1; exact ⟨h2, d, h4⟩
  | io d => obtain ⟨b, _, h1, h2, h4⟩ := q; rw [p] at h1; cases h1; exact ⟨h2, d, h4⟩
  | _ => cases m
theorem same_lent (S : SR W fx F G H sd σ) {pin : List (Nat × Addr)} (P : PinOk sd σ ios js pin) : Same G (lent H pin) := fun a o e => by
  rw [lent_not fun i hi => ?_]
  · exact S.gh a o e
  · obtain ⟨k, j, s, _, _, _, h1, h2, h3⟩ := P.mem hi
    rw [(mine_G S h1 h2 h3).1] at e
    cases e
theorem mem_ios {pin : List (Nat × Addr)} (P : PinOk sd σ ios js pin) {k i : Nat} (h : ios[k]? = some i) : ∃ a, pin[k]? = some (i, a) := by
  have hk : k < pin.length := by rw [P.1]; exact (List.getElem?_eq_some_iff.mp h).1
  obtain ⟨h1, _⟩ := P.2 k pin[k].1 pin[k].2 (List.getElem?_eq_getElem hk)
  rw [h] at h1
  cases h1
  exact ⟨pin[k].2, List.getElem?_eq_getElem hk⟩
/-- the callee's entry -/
theorem call_start (S : SR W fx F G H sd σ) (q : RVRs W fx F G H sd σ rs vs) (hp : passAll sd ios 0 rs = some svs) (hj : ioSlots rs ios = some js) (ha : apartOk rs ios js = true) {pin : List (Nat × Addr)} (P : PinOk sd σ ios js pin) :
    SR W ⟨H, F, lent H pin, pin, [], none⟩ F (lent H pin) H svs (vs.map some) ∧ (∀ a o, H a = some o → (∀ i, (i, a) ∉ pin) → lent H pin a = some o) ∧ (∀ i ∈ ios, ∃ d, svs[i]? = some (.io d)) := by
  obtain ⟨hl, hg⟩ := ioSlots_get hj
  obtain ⟨pl, pg⟩ := passAll_get hp
  have sl := same_lent S P
  unfold apartOk at ha
  rw [Bool.and_eq_true] at ha
  have nd : js.Nodup := of_decide_eq_true ha.1
  have ap : ∀ i j, rs[i]? = some (.slot j) → i ∉ ios → j ∉ js := fun i j hr hn hm => by
    have hi : i < rs.length := (List.getElem?_eq_some_iff.mp hr).1
    have z := List.all_eq_true.mp ha.2 i (List.mem_range.mpr hi)
    rw [hr] at z
    dsimp only at z
    have c1 : ios.contains i = false := by
      cases e : ios.contains i with
      | false => rfl
      | true => exact absurd (List.contains_iff_mem.mp e) hn
    have c2 : js.contains j = true := List.contains_iff_mem.mpr hm
    rw [c1, c2] at z
    cases z
  -- what an argument by a slot that is lent stands for
  have lentOk : ∀ i j s d a, rs[i]? = some (.slot j) → i ∉ ios → sd[j]? = some s → s.mine = true → σ[j]? = some (some (V.ref a)) → OwnO W F H a d → Rep W (lent H pin) d (.ref a) := fun i j s d a hr hn e m p ow => by
    have hna : ∀ i, (i, a) ∉ pin := fun i' hm => by
      obtain ⟨k, j', s', k1, k2, k3, k4, k5, k6⟩ := P.mem hm
      have ej := S.apart j j' s s' a e k4 m k5 p k6
      rw [← ej] at k2
      exact ap i j hr hn (List.mem_of_getElem? k2)
    exact (ow.keepH (H' := lent H pin) (lent_not hna)).rep ((S.fg.trans sl))
  refine ⟨⟨⟨Same.refl _, fun a o e => .inl e, Same.refl _, fun a o e => .inl e, S.fg.trans sl, fun a o e => ?_, fun a e => e, S.tup, fun a o hm => by simp at hm⟩, by rw [pl, q.1, List.length_map], fun i s e => ?_, fun i i' s s' a e1 e2 m1 m2 p1 p2 => ?_, fun a o hm => by simp at hm⟩, fun a o e hn => by rw [lent_not hn]; exact e, fun i hi => ?_⟩
  · unfold lent at e
    split at e
    · cases e
    · exact e
  · obtain ⟨r, h1, h2⟩ := pg i s e
    rw [Nat.zero_add] at h2
    have hiv : i < vs.length := by rw [← q.1]; exact (List.getElem?_eq_some_iff.mp h1).1
    have hv : (vs.map some)[i]? = some (some vs[i]) := by rw [List.getElem?_map, List.getElem?_eq_getElem hiv]; rfl
    have qr := q.2 i r vs[i] h1 (List.getElem?_eq_getElem hiv)
    unfold passOne at h2
    by_cases hc : ios.contains i = true
    · rw [if_pos hc] at h2
      cases r with
      | slot j =>
        dsimp only at h2
        have qr : σ[j]? = some (some vs[i]) := qr
        have hm := List.contains_iff_mem.mp hc
        obtain ⟨k, hk⟩ := List.getElem?_of_mem hm
        obtain ⟨a, ha'⟩ := mem_ios P hk
        obtain ⟨_, j', s', k1, k2, k3, k4⟩ := P.2 k i a ha'
        have ej := hg k i j' hk k1
        rw [h1] at ej
        cases ej
        rw [qr] at k4
        have ea : vs[i] = V.ref a := Option.some.inj (Option.some.inj k4)
        have hm' : (i, a) ∈ pin := List.mem_of_getElem? ha'
        cases e2 : sd[j]? with
        | none => rw [e2] at h2; cases h2
        | some t =>
          rw [e2] at h2
          have qs := S.slot j t e2
          cases t with
          | own d =>
            cases h2
            obtain ⟨b, b1, b2, b3, b4⟩ := qs
            rw [qr, ea] at b1; cases b1
            exact ⟨a, hm', by rw [hv, ea], lent_pin hm', b4⟩
          | io d =>
            cases h2
            obtain ⟨b, b0, b1, b2, b4⟩ := qs
            rw [qr, ea] at b1; cases b1
            exact ⟨a, hm', by rw [hv, ea], lent_pin hm', b4⟩
          | no => cases h2
          | exn => cases h2
          | sh d => cases h2
          | bor d => cases h2
      | val d => cases h2
      | bval d => cases h2
      | fresh d => cases h2
    · rw [if_neg hc] at h2
      have hn : i ∉ ios := fun hm => hc (List.contains_iff_mem.mpr hm)
      cases r with
      | val d => cases h2; exact ⟨_, hv, qr⟩
      | fresh d => cases h2; exact ⟨_, hv, qr⟩
      | bval d =>
        cases h2
        split
        · rename_i him; exact ⟨_, hv, Rep.imm S.tup (Rep.keep S.gh qr) him⟩
        · exact ⟨_, hv, Rep.keep sl qr⟩
      | slot j =>
        dsimp only at h2
        have qr : σ[j]? = some (some vs[i]) := qr
        cases e2 : sd[j]? with
        | none => rw [e2] at h2; cases h2
        | some t =>
          rw [e2] at h2
          have qs := S.slot j t e2
          cases t with
          | own d =>
            cases h2
            obtain ⟨b, b1, b2, b3, b4⟩ := qs
            rw [qr] at b1
            have ea : vs[i] = V.ref b := Option.some.inj (Option.some.inj b1)
            exact ⟨_, hv, by rw [ea]; exact lentOk i j _ d b h1 hn e2 rfl (by rw [qr, ea]) b4⟩
          | io d =>
            cases h2
            obtain ⟨b, b0, b1, b2, b4⟩ := qs
            rw [qr] at b1
            have ea : vs[i] = V.ref b := Option.some.inj (Option.some.inj b1)
            exact ⟨_, hv, by rw [ea]; exact lentOk i j _ d b h1 hn e2 rfl (by rw [qr, ea]) b4⟩
          | sh d => cases h2; obtain ⟨w, w1, w2⟩ := qs; rw [qr] at w1; cases w1; exact ⟨_, hv, w2⟩
          | bor d => cases h2; obtain ⟨w, w1, w2⟩ := qs; rw [qr] at w1; cases w1; exact ⟨_, hv, w2.keep sl⟩
          | no => cases h2
          | exn => cases h2
  · -- two parameters at one address
    have isIo : ∀ {i : Nat} {s : SV}, svs[i]? = some s → s.mine = true → (vs.map some)[i]? = some (some (V.ref a)) → ∃ j t, rs[i]? = some (.slot j) ∧ i ∈ ios ∧ σ[j]? = some (some (V.ref a)) ∧ sd[j]? = some t ∧ t.mine = true := fun {i s} e m p => by
      obtain ⟨r, h1, h2⟩ := pg i s e
      rw [Nat.zero_add] at h2
      have hiv : i < vs.length := by rw [← q.1]; exact (List.getElem?_eq_some_iff.mp h1).1
      rw [List.getElem?_map, List.getElem?_eq_getElem hiv] at p
      have ev : vs[i] = V.ref a := Option.some.inj (Option.some.inj p)
      have qr := q.2 i r vs[i] h1 (List.getElem?_eq_getElem hiv)
      unfold passOne at h2
      by_cases hc : ios.contains i = true
      · rw [if_pos hc] at h2
        cases r with
        | slot j =>
          have qr : σ[j]? = some (some vs[i]) := qr
          dsimp only at h2
          cases e2 : sd[j]? with
          | none => rw [e2] at h2; cases h2
          | some t =>
            rw [e2] at h2
            cases t with
            | own d => exact ⟨j, _, h1, List.contains_iff_mem.mp hc, by rw [qr, ev], e2, rfl⟩
            | io d => exact ⟨j, _, h1, List.contains_iff_mem.mp hc, by rw [qr, ev], e2, rfl⟩
            | no => cases h2
            | exn => cases h2
            | sh d => cases h2
            | bor d => cases h2
        | val d => cases h2
        | bval d => cases h2
        | fresh d => cases h2
      · rw [if_neg hc] at h2
        exfalso
        cases r with
        | val d => cases h2; cases m
        | fresh d => cases h2; cases m
        | bval d => cases h2; revert m; split <;> (intro m; cases m)
        | slot j =>
          dsimp only at h2
          cases e2 : sd[j]? with
          | none => rw [e2] at h2; cases h2
          | some t => rw [e2] at h2; cases t <;> (cases h2 <;> cases m)
    obtain ⟨j1, t1, a1, a2, a3, a4, a5⟩ := isIo e1 m1 p1
    obtain ⟨j2, t2, b1, b2, b3, b4, b5⟩ := isIo e2 m2 p2
    have ej := S.apart j1 j2 t1 t2 a a4 b4 a5 b5 a3 b3
    subst ej
    -- the places in ios are the same
    obtain ⟨k1, hk1⟩ := List.getElem?_of_mem a2
    obtain ⟨k2, hk2⟩ := List.getElem?_of_mem b2
    have l1 : k1 < js.length := by rw [hl]; exact (List.getElem?_eq_some_iff.mp hk1).1
    have l2 : k2 < js.length := by rw [hl]; exact (List.getElem?_eq_some_iff.mp hk2).1
    have g1 := hg k1 i _ hk1 (List.getElem?_eq_getElem l1)
    have g2 := hg k2 i' _ hk2 (List.getElem?_eq_getElem l2)
    rw [a1] at g1
    rw [b1] at g2
    have e1' : js[k1] = js[k2] := by
      have z1 := RV.slot.inj (Option.some.inj g1)
      have z2 := RV.slot.inj (Option.some.inj g2)
      exact z1.symm.trans z2
    have := (List.getElem_inj nd).mp e1'
    subst this
    rw [hk1] at hk2
    cases hk2
    rfl
  · obtain ⟨k, hk⟩ := List.getElem?_of_mem hi
    have l1 : k < js.length := by rw [hl]; exact (List.getElem?_eq_some_iff.mp hk).1
    have g1 := hg k i _ hk (List.getElem?_eq_getElem l1)
    have hi' : i < svs.length := by rw [pl]; exact (List.getElem?_eq_some_iff.mp g1).1
    obtain ⟨r, h1, h2⟩ := pg i svs[i] (List.getElem?_eq_getElem hi')
    rw [g1] at h1; cases h1
    rw [Nat.zero_add] at h2
    unfold passOne at h2
    rw [if_pos (List.contains_iff_mem.mpr hi)] at h2
    dsimp only at h2
    cases e2 : sd[js[k]]? with
    | none => rw [e2] at h2; cases h2
    | some t =>
      rw [e2] at h2
      cases t with
      | own d => exact ⟨d, by rw [List.getElem?_eq_getElem hi']; exact h2.symm⟩
      | io d => exact ⟨d, by rw [List.getElem?_eq_getElem hi']; exact h2.symm⟩
      | no => cases h2
      | exn => cases h2
      | sh d => cases h2
      | bor d => cases h2
end
end Av

/-! behind a call; the rule -/
namespace Av
open PySem L2
section
variable {fx : Fx} {W : Wd} {F G H F' G' H' : Hp} {sd : List SV} {σ : L2.St} {rs : List RV} {vs : List V} {ios js : List Nat} {svs : List SV} {pin : List (Nat × Addr)} {outs : List D}
/-- the caller's steady heap behind the call -/
def joinG (G F' : Hp) : Hp := fun a => match G a with
  | some o => some o
  | none => F' a
theorem joinG_of {a : Addr} {o : HO} (h : G a = some o) : joinG G F' a = some o := by unfold joinG; rw [h]
theorem joinG_none {a : Addr} (h : G a = none) : joinG G F' a = F' a := by unfold joinG; rw [h]
theorem call_end (S : SR W fx F G H sd σ) (hj : ioSlots rs ios = some js) (ha : apartOk rs ios js = true) (P : PinOk sd σ ios js pin) (nd' : ios.Nodup) (h : HR ⟨H, F, lent H pin, pin, [], none⟩ F' G' H') (ho : OutsR W F' G' H' pin ios outs) :
    SR W fx F' (joinG G F') H' (wb (js.zip outs) 0 sd) σ ∧ Same F F' ∧ Same G (joinG G F') ∧ ∀ a, G' a = none → H a = none → joinG G F' a = none ∧ ∀ (j : Nat) (s : SV), (wb (js.zip outs) 0 sd)[j]? = some s → s.mine = true → σ[j]? ≠ some (some (V.ref a)) := by
  obtain ⟨hl, hg⟩ := ioSlots_get hj
  have sl := same_lent S P
  unfold apartOk at ha
  rw [Bool.and_eq_true] at ha
  have nd : js.Nodup := of_decide_eq_true ha.1
  have sG : Same G G' := sl.trans h.gg
  -- what the steady heap holds is in H'
  have jg : Same (joinG G F') G' := fun a o e => by
    cases eg : G a with
    | some o' => rw [joinG_of eg] at e; cases e; exact sG a _ eg
    | none => rw [joinG_none eg] at e; exact h.fg a o e
  have fj : Same F' (joinG G F') := fun a o e => by
    cases eg : G a with
    | some o' =>
      rw [joinG_of eg]
      have := sG a _ eg
      rw [h.fg a o e] at this
      exact this.symm
    | none => rw [joinG_none eg]; exact e
  have gj : Same G (joinG G F') := fun a o e => joinG_of e
  -- an own object of the caller is in neither
  have ownNone : ∀ a o, G a = none → H a = some o → joinG G F' a = none := fun a o e1 e2 => by
    rw [joinG_none e1]
    cases ef : F' a with
    | none => rfl
    | some o' =>
      rcases h.fn a o' ef with z | z
      · exact absurd (S.fg a o' z) (by rw [e1]; simp)
      · rw [show H a = none from z] at e2; cases e2
  have base : HR fx F' (joinG G F') H' := by
    refine ⟨S.ff.trans h.ff, fun a o e => ?_, S.gg.trans gj, fun a o e => ?_, fj, jg.trans h.gh, fun a e => S.dom a (h.dom a e), h.tup, fun a o hm => ?_⟩
    · rcases h.fn a o e with z | z
      · exact S.fn a o z
      · exact .inr (S.dom a z)
    · cases eg : G a with
      | some o' => rw [joinG_of eg] at e; cases e; exact S.gn a _ eg
      | none =>
        rw [joinG_none eg] at e
        rcases h.fn a o e with z | z
        · exact absurd (S.fg a o z) (by rw [eg]; simp)
        · exact .inr (S.dom a z)
    · obtain ⟨h1, h2, h3⟩ := S.held a o hm
      have hna : ∀ i, (i, a) ∉ pin := fun i' hp => by
        obtain ⟨k, j', s', k1, k2, k3, k4, k5, k6⟩ := P.mem hp
        exact S.free a o hm j' s' k4 k5 k6
      have hl' : lent H pin a = some o := by rw [lent_not hna]; exact h1
      exact ⟨h.gh a o (h.gg a o hl'), ownNone a o h2 h1, h3⟩
  -- which slots were handed over
  have look : ∀ j d, (js.zip outs).lookup j = some d → ∃ k : Nat, js[k]? = some j ∧ outs[k]? = some d := by
    have gen : ∀ (js : List Nat) (outs : List D) j d, (js.zip outs).lookup j = some d → ∃ k : Nat, js[k]? = some j ∧ outs[k]? = some d := fun js => by
      induction js with
      | nil => intro outs j d e; simp at e
      | cons x js ih =>
        intro outs j d e
        cases outs with
        | nil => simp at e
        | cons y outs =>
          rw [List.zip_cons_cons, List.lookup_cons] at e
          by_cases hx : j = x
          · subst hx
            simp at e
            subst e
            exact ⟨0, rfl, rfl⟩
          · have hb : (j == x) = false := beq_eq_false_iff_ne.mpr hx
            rw [hb] at e
            obtain ⟨k, h1, h2⟩ := ih outs j d e
            exact ⟨k + 1, by simpa using h1, by simpa using h2⟩
    exact gen js outs
  have look2 : ∀ j, j ∈ js → ∃ d, (js.zip outs).lookup j = some d := by
    have gen : ∀ (js : List Nat) (outs : List D) j, js.length = outs.length → j ∈ js → ∃ d, (js.zip outs).lookup j = some d := fun js => by
      induction js with
      | nil => intro outs j _ hm; simp at hm
      | cons x js ih =>
        intro outs j hl hm
        cases outs with
        | nil => simp at hl
        | cons y outs =>
          rw [List.zip_cons_cons, List.lookup_cons]
          by_cases hx : j = x
          · subst hx; exact ⟨y, by simp⟩
          · have hb : (j == x) = false := beq_eq_false_iff_ne.mpr hx
            rw [hb]
            rcases List.mem_cons.mp hm with z | z
            · exact absurd z hx
            · exact ih outs j (by simpa using hl) z
    exact fun j hm => gen js outs j (by rw [hl, ho.1]) hm
  -- a slot that was not handed over keeps its object
  have keepOwn : ∀ j s a, sd[j]? = some s → s.mine = true → σ[j]? = some (some (V.ref a)) → j ∉ js → H' a = H a ∧ joinG G F' a = none := fun j s a e m p hn => by
    obtain ⟨g0, d, ow⟩ := mine_G S e m p
    obtain ⟨o, eo, _⟩ := ow.there
    have hna : ∀ i, (i, a) ∉ pin := fun i' hm => by
      obtain ⟨k, j', s', k1, k2, k3, k4, k5, k6⟩ := P.mem hm
      have ej := S.apart j j' s s' a e k4 m k5 p k6
      rw [← ej] at k2
      exact hn (List.mem_of_getElem? k2)
    have : lent H pin a = some o := by rw [lent_not hna]; exact eo
    exact ⟨by rw [h.gh a o (h.gg a o this), eo], ownNone a o g0 eo⟩
  -- one that was has the new content
  have newOwn : ∀ j s a d, sd[j]? = some s → s.mine = true → σ[j]? = some (some (V.ref a)) → (js.zip outs).lookup j = some d → OwnO W F' H' a d ∧ joinG G F' a = none := fun j s a d e m p hd => by
    obtain ⟨g0, d0, ow⟩ := mine_G S e m p
    obtain ⟨o, eo, _⟩ := ow.there
    obtain ⟨k, k1, k2⟩ := look j d hd
    have hk : k < ios.length := by rw [← hl]; exact (List.getElem?_eq_some_iff.mp k1).1
    obtain ⟨b, hb⟩ := mem_ios P (List.getElem?_eq_getElem hk)
    obtain ⟨c, c1, c2, c3⟩ := ho.2 k ios[k] d (List.getElem?_eq_getElem hk) k2
    obtain ⟨k', j', s', q1, q2, q3, q4, q5, q6⟩ := P.mem c1
    have ek : k' = k := by
      have l1 : k' < ios.length := (List.getElem?_eq_some_iff.mp q1).1
      have := (List.getElem?_eq_some_iff.mp q1).2
      exact (List.getElem_inj nd').mp (by rw [this])
    subst ek
    rw [k1] at q2
    cases q2
    rw [p] at q6
    cases q6
    exact ⟨c3, ownNone a o g0 eo⟩
  have wbget : ∀ j s', (wb (js.zip outs) 0 sd)[j]? = some s' → ∃ s, sd[j]? = some s ∧ s' = updSV (js.zip outs) j s := fun j s' e => by
    rw [wb_get, Nat.zero_add] at e
    cases e2 : sd[j]? with
    | none => rw [e2] at e; cases e
    | some s => rw [e2] at e; cases e; exact ⟨s, rfl, rfl⟩
  have wbmine : ∀ (j : Nat) (s' : SV), (wb (js.zip outs) 0 sd)[j]? = some s' → s'.mine = true → ∃ s : SV, sd[j]? = some s ∧ s.mine = true := fun j s' e m => by
    obtain ⟨s, e1, e2⟩ := wbget j s' e
    refine ⟨s, e1, ?_⟩
    subst e2
    unfold updSV at m
    cases el : (js.zip outs).lookup j with
    | none => rw [el] at m; exact m
    | some d => rw [el] at m; cases s <;> first | rfl | exact m
  refine ⟨⟨base, by rw [wb_len]; exact S.len, fun j s' e => ?_, fun i j s s' a e1 e2 m1 m2 p1 p2 => ?_, fun a o hm j s' e m p => ?_⟩, h.ff, gj, fun a e1 e2 => ⟨?_, fun j s e m p => ?_⟩⟩
  · obtain ⟨s, e1, rfl⟩ := wbget j s' e
    have qs := S.slot j s e1
    unfold updSV
    cases el : (js.zip outs).lookup j with
    | none =>
      have hn : j ∉ js := fun hm => by
        obtain ⟨d, hd⟩ := look2 j hm
        rw [el] at hd; cases hd
      exact qs.keep h.ff gj fun b p1 m _ _ => keepOwn j s b e1 m p1 hn
    | some d =>
      cases s with
      | no => exact qs
      | exn => exact qs
      | sh d0 => obtain ⟨w, w1, w2⟩ := qs; exact ⟨w, w1, w2.keep h.ff⟩
      | bor d0 => obtain ⟨w, w1, w2⟩ := qs; exact ⟨w, w1, w2.keep gj⟩
      | own d0 =>
        obtain ⟨a, a1, a2, a3, a4⟩ := qs
        obtain ⟨n1, n2⟩ := newOwn j _ a d e1 rfl a1 el
        exact ⟨a, a1, n2, a3, n1⟩
      | io d0 =>
        obtain ⟨a, a0, a1, a2, a4⟩ := qs
        obtain ⟨n1, n2⟩ := newOwn j _ a d e1 rfl a1 el
        exact ⟨a, a0, a1, n2, n1⟩
  · obtain ⟨t1, f1, n1⟩ := wbmine i s e1 m1
    obtain ⟨t2, f2, n2⟩ := wbmine j s' e2 m2
    exact S.apart i j t1 t2 a f1 f2 n1 n2 p1 p2
  · obtain ⟨t1, f1, n1⟩ := wbmine j s' e m
    exact S.free a o hm j t1 f1 n1 p
  · have eg : G a = none := by
      cases z : G a with
      | none => rfl
      | some o => rw [S.gh a o z] at e2; cases e2
    rw [joinG_none eg]
    cases z : F' a with
    | none => rfl
    | some o => rw [h.fg a o z] at e1; cases e1
  · obtain ⟨t, f, n⟩ := wbmine j s e m
    obtain ⟨_, d, ow⟩ := mine_G S f n p
    obtain ⟨o, eo, _⟩ := ow.there
    rw [e2] at eo; cases eo
end
section
variable {fx : Fx} {X : Cx} {Wx : WX} {e a b c : Expr} {pos : Pos}
/-- the wish at a call, by the caller's slots -/
theorem pass_at {W : WX} (tk : L2N.Takes X W) (σ : L2.St) : PassesAt (L2N.CX X.prog X.w) X σ (WE W σ) := fun _ _ _ e s' I c => tk e s' (L2N.XE.of_call I (fun _ _ _ h => h) c)
theorem call_in {ios : List Nat} {mf : MF} {ma : M (List RV)} {t : TA} (q : ∀ F G H sd σ Q, SR (wd X) fx F G H sd σ → Po (wd X) fx F G σ Wx (fun F G H sd rs vs => RVRs (wd X) fx F G H sd σ rs vs) Q (ma sd) → t σ H Q) (nd : ios.Nodup)
    {F G H : Hp} {sd : List SV} {σ : L2.St} {Q : VK} (S : SR (wd X) fx F G H sd σ) (h : Po (wd X) fx F G σ Wx (RlE (wd X) fx σ) Q (mCall ios mf ma sd)) : t σ H fun vs H1 => spD (wd X) ios mf vs H1 Q (WE Wx σ) := by
  refine args q S h fun F1 G1 H1 sd1 rs vs e1 e2 S1 r1 h => ?_
  cases e3 : passAll sd1 ios 0 rs with
  | none => rw [e3] at h; exact h.elim
  | some svs =>
    cases e4 : ioSlots rs ios with
    | none => rw [e3, e4] at h; exact h.elim
    | some js =>
      rw [e3, e4] at h
      dsimp only at h
      split at h
      · rename_i ap
        obtain ⟨pin, P⟩ := pins_there S1 r1 e3 e4
        obtain ⟨k1, k2, k3⟩ := call_start S1 r1 e3 e4 ap P
        refine ⟨F1, lent H1 pin, pin, svs, k1, k2, k3, ?_⟩
        cases em : mf svs with
        | fail => rw [em] at h; exact h.elim
        | ok r outs =>
          rw [em] at h
          intro v F2 G2 H2 hr rr ho
          obtain ⟨S2, f1, f2, f3⟩ := call_end S1 e4 ap P nd hr ho
          refine h F2 (joinG G1 F2) H2 v f1 f2 S2 ?_
          cases r with
          | val d => exact rr
          | fresh d =>
            obtain ⟨a, rfl, b1, b2, b3⟩ := rr
            obtain ⟨c1, c2⟩ := f3 a b1 b2
            exact ⟨a, rfl, c1, S1.dom a b2, b3, c2, fun o hm => by rw [(S1.held a o hm).1] at b2; cases b2⟩
          | bval d => exact rr.elim
          | slot i => exact rr.elim
        | exc x outs =>
          rw [em] at h
          intro c d F2 G2 H2 hr rr ho
          obtain ⟨S2, f1, f2, f3⟩ := call_end S1 e4 ap P nd hr ho
          exact h F2 (joinG G1 F2) H2 c d f1 f2 S2 rr
      · exact h.elim
theorem se_call {k : Nat} {f : Addr} {fd : FuncData} {ps : List Str} {ios : List Nat} {mf : MF} {x : Str} {p : Pos} {es : List Expr} {ma : M (List RV)} (Fk : FnOk X.prog X.w X.K X.mg X.base (L2N.CX X.prog X.w) k f fd ps (spD (wd X) ios mf)) (tk : L2N.Takes X Wx) (hr : Room k X.A) (hg : Gl X x) (hm : X.mg x = some (.ref f)) (hk : PySem.W.keepIn X.K (.ref f) = true) (hb : Binds X.K fd ps [])
    (ha : SA fx X Wx (e :: es) ma) (nd : ios.Nodup := by decide) (hdb : (x == ("__debug__" : Str)) = false := by decide) (he : starEach (e :: es) X.env = (false, eval e X.env) :: starEach es X.env := by rfl) (hpl : (backTo pos (starEach es X.env)).any (·.1) = false := by rfl) :
    SE fx X Wx (.Call (.Name x p) (e :: es) [] pos) (mCall ios mf ma) := by
  obtain ⟨t, pt, q⟩ := ha.ex
  exact ⟨_, pe_callS Fk hr hg hm hk hb (fun σ => pass_at tk σ) pt hdb he hpl, fun F G H sd σ Q S h => call_in q nd S h⟩
end
end Av

/-! list comprehensions -/
namespace Av
open PySem L2
/-- one rule for every block -/
structure SEb (X : Cx) (scope : Scope) (e : Expr) (m : M RV) : Prop where
  ex : ∃ t : TE, (∀ s H C cl fp, PE (X.blk s H scope (compEnvC scope cl C X.env) fp) e t) ∧ ∀ fx F G H sd σ Q, SR (wd X) fx F G H sd σ → Po (wd X) fx F G σ (fun _ _ _ _ => False) (RlE (wd X) fx σ) Q (m sd) → t σ H Q
structure STb (X : Cx) (scope : Scope) (es : List Expr) (m : M Bool) : Prop where
  ex : ∃ t : TT, (∀ s H C cl fp, PTs (X.blk s H scope (compEnvC scope cl C X.env) fp) es t) ∧ ∀ fx F G H sd σ Q, SR (wd X) fx F G H sd σ → Po (wd X) fx F G σ (fun _ _ _ _ => False) RlT Q (m sd) → t σ H Q
structure SGb (X : Cx) (scope : Scope) (tg : Expr) (sl : List Nat) (g : MG) : Prop where
  ex : ∃ t : TG, (∀ s H C cl fp, PG (X.blk s H scope (compEnvC scope cl C X.env) fp) tg t) ∧ ∀ fx F G H sd sd' σ rv v (Q : L2.St → Hp → Prop), SR (wd X) fx F G H sd σ → RVR (wd X) fx F G H sd σ rv v → g rv sd = some sd' →
    (∀ F' G' H' σ', Same F F' → Same G G' → SR (wd X) fx F' G' H' sd' σ' → Off sl σ σ' → Q σ' H') → t v σ H Q
structure SIb (X : Cx) (scope : Scope) (tg iter : Expr) (m : M (List RV)) : Prop where
  ex : ∃ wi : TI, (∀ s H C cl fp, PI (X.blk s H scope (compEnvC scope cl C X.env) fp) tg iter wi) ∧ ∀ fx F G H sd σ Rj, SR (wd X) fx F G H sd σ → PoI (wd X) fx F G σ (fun _ _ _ _ => False) Rj (m sd) → wi σ H Rj
section
variable {X : Cx} {scope : Scope} {e tg iter : Expr} {m : M RV}
theorem SEb.of (h : ∀ fx s H C cl fp, SE fx (X.blk s H scope (compEnvC scope cl C X.env) fp) (fun _ _ _ _ => False) e m) : SEb X scope e m := by
  have c := fun fx s H C cl fp => Classical.choose_spec (h fx s H C cl fp).ex
  refine ⟨fun σ Hh Q => ∃ fx, ∀ s H C cl fp, Classical.choose (h fx s H C cl fp).ex σ Hh Q, fun s H C cl fp => ⟨fun pins s' σ H' Q I q => ?_⟩, fun fx F G H sd σ Q S p => ⟨fx, fun s H' C cl fp => ?_⟩⟩
  · obtain ⟨fx, q⟩ := q
    exact (c fx s H C cl fp).1.run pins s' σ H' Q I (q s H C cl fp)
  · exact (c fx s H' C cl fp).2 F G H sd σ Q S p
theorem STb.nil : STb X scope [] (mPure true) := ⟨_, fun _ _ _ _ _ => pts_nil, fun fx F G H sd σ Q S p => p F G H true (Same.refl _) (Same.refl _) S rfl⟩
theorem STb.one {m : M Bool} (h : ∀ fx s H C cl fp, ST fx (X.blk s H scope (compEnvC scope cl C X.env) fp) (fun _ _ _ _ => False) e m) : STb X scope [e] m := by
  have c := fun fx s H C cl fp => Classical.choose_spec (h fx s H C cl fp).ex
  refine ⟨fun σ Hh Q => ∃ fx, ∀ s H C cl fp, Classical.choose (h fx s H C cl fp).ex σ Hh Q, fun s H C cl fp => pts_one ⟨fun pins s' σ H' Q I q => ?_⟩, fun fx F G H sd σ Q S p => ⟨fx, fun s H' C cl fp => ?_⟩⟩
  · obtain ⟨fx, q⟩ := q
    exact (c fx s H C cl fp).1.run pins s' σ H' Q I (q s H C cl fp)
  · exact (c fx s H' C cl fp).2 F G H sd σ Q S p
theorem SGb.of {sl : List Nat} {g : MG} (h : ∀ fx s H C cl fp, SG fx (X.blk s H scope (compEnvC scope cl C X.env) fp) tg sl g) : SGb X scope tg sl g := by
  have c := fun fx s H C cl fp => Classical.choose_spec (h fx s H C cl fp).ex
  refine ⟨fun v σ Hh Q => ∃ fx, ∀ s H C cl fp, Classical.choose (h fx s H C cl fp).ex v σ Hh Q, fun s H C cl fp => ⟨fun pins s' σ H' v u Q I r q => ?_⟩, fun fx F G H sd sd' σ rv v Q S r eg k => ⟨fx, fun s H' C cl fp => ?_⟩⟩
  · obtain ⟨fx, q⟩ := q
    exact (c fx s H C cl fp).1.run pins s' σ H' v u Q I r (q s H C cl fp)
  · exact (c fx s H' C cl fp).2 F G H sd sd' σ rv v Q S r eg k
theorem SIb.of {m : M (List RV)} (h : ∀ fx s H C cl fp, SI fx (X.blk s H scope (compEnvC scope cl C X.env) fp) (fun _ _ _ _ => False) tg iter m) : SIb X scope tg iter m := by
  have c := fun fx s H C cl fp => Classical.choose_spec (h fx s H C cl fp).ex
  refine ⟨fun σ Hh Q => ∃ fx, ∀ s H C cl fp, Classical.choose (h fx s H C cl fp).ex σ Hh Q, fun s H C cl fp => ⟨fun pins s' σ H' Q I q => ?_⟩, fun fx F G H sd σ Q S p => ⟨fx, fun s H' C cl fp => ?_⟩⟩
  · obtain ⟨fx, q⟩ := q
    exact (c fx s H C cl fp).1.run pins s' σ H' Q I (q s H C cl fp)
  · exact (c fx s H' C cl fp).2 F G H sd σ Q S p
end

/-! ### the block's own slots -/
def wipeS (sd : List SV) : List Nat → List SV
  | [] => sd
  | v :: vs => (wipeS sd vs).set v .no
theorem wipeS_len (sd : List SV) : ∀ vs, (wipeS sd vs).length = sd.length
  | [] => rfl
  | v :: vs => by rw [wipeS, List.length_set, wipeS_len sd vs]
theorem wipeS_get {sd : List SV} {i : Nat} {s : SV} : ∀ {vs : List Nat}, (wipeS sd vs)[i]? = some s → s = .no ∨ (sd[i]? = some s ∧ i ∉ vs)
  | [], h => .inr ⟨h, by simp⟩
  | v :: vs, h => by
    rw [wipeS, List.getElem?_set] at h
    by_cases hi : v = i
    · subst hi
      rw [if_pos rfl] at h
      split at h
      · cases h; exact .inl rfl
      · cases h
    · rw [if_neg hi] at h
      rcases wipeS_get h with z | ⟨z1, z2⟩
      · exact .inl z
      · exact .inr ⟨z1, by simp only [List.mem_cons, not_or]; exact ⟨fun e => hi e.symm, z2⟩⟩
theorem wipe_get {σ : L2.St} {i : Nat} : ∀ {vs : List Nat}, i ∉ vs → (wipe σ vs)[i]? = σ[i]?
  | [], _ => rfl
  | v :: vs, h => by
    simp only [List.mem_cons, not_or] at h
    rw [wipe, List.getElem?_set, if_neg (fun z => h.1 z.symm)]
    exact wipe_get h.2
/-- what stands outside the block's own slots is all that counts -/
theorem SR.wiped {W : Wd} {fx : Fx} {F G H : Hp} {sd : List SV} {σ σ' : L2.St} {vs : List Nat} (S : SR W fx F G H sd σ) (hl : σ'.length = σ.length) (h : ∀ i, i ∉ vs → σ'[i]? = σ[i]?) : SR W fx F G H (wipeS sd vs) σ' where
  toHR := S.toHR
  len := by rw [wipeS_len, S.len, hl]
  slot := fun i s e => by
    rcases wipeS_get e with rfl | ⟨e1, e2⟩
    · exact True.intro
    · have q := S.slot i s e1
      have es := h i e2
      cases s with
      | no => exact q
      | exn => obtain ⟨w, h0, h1⟩ := q; exact ⟨w, h0, es.trans h1⟩
      | sh d => obtain ⟨w, h1, h2⟩ := q; exact ⟨w, es.trans h1, h2⟩
      | bor d => obtain ⟨w, h1, h2⟩ := q; exact ⟨w, es.trans h1, h2⟩
      | own d => obtain ⟨w, h1, h2⟩ := q; exact ⟨w, es.trans h1, h2⟩
      | io d => obtain ⟨w, h0, h1, h2⟩ := q; exact ⟨w, h0, es.trans h1, h2⟩
  apart := fun i j s s' a e1 e2 m1 m2 p1 p2 => by
    rcases wipeS_get e1 with rfl | ⟨k1, k2⟩
    · cases m1
    rcases wipeS_get e2 with rfl | ⟨k3, k4⟩
    · cases m2
    exact S.apart i j s s' a k1 k3 m1 m2 ((h i k2).symm.trans p1) ((h j k4).symm.trans p2)
  free := fun a o hm i s e m p => by
    rcases wipeS_get e with rfl | ⟨k1, k2⟩
    · cases m
    exact S.free a o hm i s k1 m ((h i k2).symm.trans p)
theorem wipe_eq {σ σ' : L2.St} {vs : List Nat} (hl : σ'.length = σ.length) (h : ∀ i, i ∉ vs → σ'[i]? = σ[i]?) : wipe σ' vs = wipe σ vs := by
  apply List.ext_getElem?
  intro i
  by_cases hi : i ∈ vs
  · have gen : ∀ (σ : L2.St) (vs : List Nat), i ∈ vs → (wipe σ vs)[i]? = if i < σ.length then some none else none := fun σ vs => by
      induction vs with
      | nil => intro hm; simp at hm
      | cons v vs ih =>
        intro hm
        rw [wipe, List.getElem?_set, wipe_length]
        by_cases hv : v = i
        · subst hv; rw [if_pos rfl]
        · rw [if_neg hv]
          rcases List.mem_cons.mp hm with z | z
          · exact absurd z.symm hv
          · exact ih z
    rw [gen σ' vs hi, gen σ vs hi, hl]
  · rw [wipe_get hi, wipe_get hi]
    exact h i hi

/-! ### an object that is held aside -/
abbrev Fx.with (fx : Fx) (D : Addr) (o : HO) : Fx := { fx with hold := (D, o) :: fx.hold }
theorem SR.unhold {W : Wd} {fx : Fx} {F G H : Hp} {sd : List SV} {σ : L2.St} {D : Addr} {o : HO} (S : SR W (fx.with D o) F G H sd σ) : SR W fx F G H sd σ where
  ff := S.ff
  fn := S.fn
  gg := S.gg
  gn := S.gn
  fg := S.fg
  gh := S.gh
  dom := S.dom
  tup := S.tup
  held := fun a o h => S.held a o (List.mem_cons_of_mem _ h)
  len := S.len
  slot := fun i s e => by
    have q := S.slot i s e
    cases s <;> exact q
  apart := S.apart
  free := fun a o h => S.free a o (List.mem_cons_of_mem _ h)
theorem SR.holdNew {W : Wd} {fx : Fx} {F G H : Hp} {sd : List SV} {σ : L2.St} {D : Addr} {xs : List V} (S : SR W fx F G H sd σ) (h : H D = none) : SR W (fx.with D (.lst xs)) F G (upd H D (.lst xs)) sd σ := by
  have S' := S.newOwn (o := .lst xs) h (fun _ z => by cases z) (fun _ _ z => by cases z)
  refine ⟨⟨S'.ff, S'.fn, S'.gg, S'.gn, S'.fg, S'.gh, S'.dom, S'.tup, fun a o hm => ?_⟩, S'.len, fun i s e => ?_, S'.apart, fun a o hm => ?_⟩
  · rcases List.mem_cons.mp hm with z | z
    · cases z; exact ⟨upd_same, S.freeG h, S.dom _ h⟩
    · exact S'.held a o z
  · have q := S'.slot i s e
    cases s <;> exact q
  · rcases List.mem_cons.mp hm with z | z
    · cases z
      intro i s e m p
      obtain ⟨_, d, ow⟩ := mine_G S e m p
      obtain ⟨u, eu, _⟩ := ow.there
      rw [h] at eu; cases eu
    · exact S'.free a o z
theorem SR.holdSet {W : Wd} {fx : Fx} {F G H : Hp} {sd : List SV} {σ : L2.St} {D : Addr} {xs ys : List V} (S : SR W (fx.with D (.lst xs)) F G H sd σ) (nd : ∀ o, (D, o) ∉ fx.hold) : SR W (fx.with D (.lst ys)) F G (upd H D (.lst ys)) sd σ := by
  obtain ⟨h1, h2, h3⟩ := S.held D (.lst xs) List.mem_cons_self
  have fr := S.free D (.lst xs) List.mem_cons_self
  refine ⟨⟨S.ff, S.fn, S.gg, S.gn, S.fg, fun b o e => ?_, fun b e => ?_, fun b zs r => ?_, fun a o hm => ?_⟩, S.len, fun i s e => ?_, S.apart, fun a o hm => ?_⟩
  · rw [upd_ne (ne_of_none e h2)]; exact S.gh b o e
  · by_cases hb : b = D
    · subst hb; rw [upd_same] at e; cases e
    · rw [upd_ne hb] at e; exact S.dom b e
  · by_cases hb : b = D
    · subst hb
      rcases r with r | ⟨ob, r⟩
      · rw [upd_same] at r; cases r
      · rw [upd_same] at r; cases r
    · rw [upd_ne hb]
      exact S.tup b zs (by
        rcases r with r | ⟨ob, r⟩
        · rw [upd_ne hb] at r; exact .inl r
        · rw [upd_ne hb] at r; exact .inr ⟨ob, r⟩)
  · rcases List.mem_cons.mp hm with z | z
    · cases z; exact ⟨upd_same, h2, h3⟩
    · obtain ⟨k1, k2, k3⟩ := S.held a o (List.mem_cons_of_mem _ z)
      have hb : a ≠ D := fun e => by subst e; exact nd o z
      exact ⟨by rw [upd_ne hb]; exact k1, k2, k3⟩
  · have q := (S.slot i s e).keep (H' := upd H D (.lst ys)) (Same.refl _) (Same.refl _) fun b p m g _ => ⟨upd_ne fun z => by subst z; exact fr i s e m p, g⟩
    cases s <;> exact q
  · rcases List.mem_cons.mp hm with z | z
    · cases z; exact fr
    · exact S.free a o (List.mem_cons_of_mem _ z)

/-! ### the rule -/
def compGo (vs : List Nat) (g : MG) (mt : M Bool) (me : M RV) : List RV → List D → List SV → R RV
  | [], acc, sd => .ok (.fresh (.lst acc)) (wipeS sd vs)
  | r :: rs, acc, sd => match g r (wipeS sd vs) with
    | none => .fail
    | some sd1 => match mt sd1 with
      | .ok true sd2 => match (mBind me mShare) sd2 with
        | .ok d sd3 => if acc.length < sizeLine then compGo vs g mt me rs (acc ++ [d]) sd3 else .fail
        | _ => .fail
      | .ok false sd2 => compGo vs g mt me rs acc sd2
      | _ => .fail
def mComp (vs : List Nat) (mi : M (List RV)) (g : MG) (mt : M Bool) (me : M RV) : M RV := mBind mi fun items => compGo vs g mt me items []
theorem wipeS_in {s : List SV} {i : Nat} : ∀ {vs : List Nat}, i ∈ vs → (wipeS s vs)[i]? = if i < s.length then some .no else none
  | [], h => by simp at h
  | v :: vs, hm => by
    rw [wipeS, List.getElem?_set, wipeS_len]
    by_cases hv : v = i
    · subst hv; rw [if_pos rfl]
    · rw [if_neg hv]
      rcases List.mem_cons.mp hm with z | z
      · exact absurd z.symm hv
      · exact wipeS_in z
theorem wipeS_out {s : List SV} {i : Nat} : ∀ {vs : List Nat}, i ∉ vs → (wipeS s vs)[i]? = s[i]?
  | [], _ => rfl
  | v :: vs, hm => by
    simp only [List.mem_cons, not_or] at hm
    rw [wipeS, List.getElem?_set, if_neg (fun z => hm.1 z.symm)]
    exact wipeS_out hm.2
theorem wipeS_wipeS (s : List SV) (vs : List Nat) : wipeS (wipeS s vs) vs = wipeS s vs := by
  apply List.ext_getElem?
  intro i
  by_cases hi : i ∈ vs
  · rw [wipeS_in hi, wipeS_in hi, wipeS_len]
  · rw [wipeS_out hi]
theorem compGo_wipe {vs : List Nat} {g : MG} {mt : M Bool} {me : M RV} (items : List RV) (acc : List D) (sd : List SV) : compGo vs g mt me items acc (wipeS sd vs) = compGo vs g mt me items acc sd := by
  cases items with
  | nil => unfold compGo; rw [wipeS_wipeS]
  | cons r rs => unfold compGo; rw [wipeS_wipeS]
theorem RepL.lenD {W : Wd} {H : Hp} {ds : List D} {vs : List V} (r : RepL W H ds vs) : vs.length = ds.length := r.n.symm
theorem lc_in {fx : Fx} {X : Cx} {Wx : WX} {scope : Scope} {tg elt : Expr} {ifs : List Expr} {wi : TI} {vs sl : List Nat} {mi : M (List RV)} {g : MG} {mt : M Bool} {me : M RV} {tg' : TG} {tt : TT} {te : TE}
    (qi : ∀ F G H sd σ Rj, SR (wd X) fx F G H sd σ → PoI (wd X) fx F G σ Wx Rj (mi sd) → wi σ H Rj)
    (qg : ∀ fx F G H sd sd' σ rv v (Q : L2.St → Hp → Prop), SR (wd X) fx F G H sd σ → RVR (wd X) fx F G H sd σ rv v → g rv sd = some sd' → (∀ F' G' H' σ', Same F F' → Same G G' → SR (wd X) fx F' G' H' sd' σ' → Off sl σ σ' → Q σ' H') → tg' v σ H Q)
    (qt : ∀ fx F G H sd σ Q, SR (wd X) fx F G H sd σ → Po (wd X) fx F G σ (fun _ _ _ _ => False) RlT Q (mt sd) → tt σ H Q)
    (qe : ∀ fx F G H sd σ Q, SR (wd X) fx F G H sd σ → Po (wd X) fx F G σ (fun _ _ _ _ => False) (RlE (wd X) fx σ) Q (me sd) → te σ H Q)
    (hsl : ∀ i ∈ sl, i ∈ vs) {F G H : Hp} {sd : List SV} {σ : L2.St} {Q : VK} (S : SR (wd X) fx F G H sd σ) (h : Po (wd X) fx F G σ Wx (RlE (wd X) fx σ) Q (mComp vs mi g mt me sd)) : tLc wi tg' tt te vs σ H Q := by
  refine qi F G H sd σ _ S ?_
  unfold mComp mBind at h
  cases ei : mi sd with
  | fail => rw [ei] at h; exact h
  | exc x sd1 => rw [ei] at h; exact h
  | ok items sd1 =>
    rw [ei] at h
    intro F1 G1 H1 J e1 e2 S1 wk D hD
    have h : Po (wd X) fx F1 G1 σ Wx (RlE (wd X) fx σ) Q (compGo vs g mt me items [] sd1) := Po.mono e1 e2 h
    have hnd : ∀ o, (D, o) ∉ fx.hold := fun o hm => by rw [(S1.held D o hm).1] at hD; cases hD
    refine ⟨fun i m H' => m = items.length - i ∧ i ≤ items.length ∧ ∃ F' G' sd' acc accV, Same F1 F' ∧ Same G1 G' ∧ SR (wd X) (fx.with D (.lst accV)) F' G' H' sd' (wipe σ vs) ∧ RepL (wd X) F' acc accV ∧ Po (wd X) fx F' G' σ Wx (RlE (wd X) fx σ) Q (compGo vs g mt me (items.drop i) acc sd'),
      ⟨items.length, by simp, Nat.zero_le _, F1, G1, wipeS sd1 vs, [], [], Same.refl _, Same.refl _, ?_, RepL.nil, ?_⟩, ?_⟩
    · exact SR.wiped (S1.holdNew hD) (wipe_length _ _) fun i hi => wipe_get hi
    · rw [List.drop_zero, compGo_wipe]
      exact h
    · rintro i m H2 ⟨rfl, hi, F2, G2, sd2, acc, accV, j1, j2, S2, rl, h2⟩
      obtain ⟨w1, w2⟩ := wk (fx.with D (.lst accV)) i F2 G2 H2 sd2 (wipe σ vs) j1 j2 S2
      by_cases hlt : i < items.length
      · obtain ⟨go, y⟩ := w2 items[i] (List.getElem?_eq_getElem hlt)
        refine .inr ⟨go, fun H' => ∃ F' G' sd' acc accV, Same F1 F' ∧ Same G1 G' ∧ SR (wd X) (fx.with D (.lst accV)) F' G' H' sd' (wipe σ vs) ∧ RepL (wd X) F' acc accV ∧ Po (wd X) fx F' G' σ Wx (RlE (wd X) fx σ) Q (compGo vs g mt me (items.drop (i + 1)) acc sd'),
          fun H' n => ⟨items.length - (i + 1), by omega, rfl, hlt, n⟩, fun x H3 yx => ?_⟩
        obtain ⟨F3, G3, j3, j4, S3, r3⟩ := y x H3 yx
        rw [List.drop_eq_getElem_cons hlt] at h2
        unfold compGo at h2
        have h2 := Po.mono j3 j4 h2
        cases eg : g items[i] (wipeS sd2 vs) with
        | none => rw [eg] at h2; exact h2.elim
        | some sd3 =>
          rw [eg] at h2
          have S3w : SR (wd X) (fx.with D (.lst accV)) F3 G3 H3 (wipeS sd2 vs) (wipe σ vs) := S3.wiped rfl fun _ _ => rfl
          have hr : RVR (wd X) (fx.with D (.lst accV)) F3 G3 H3 (wipeS sd2 vs) (wipe σ vs) items[i] x := by
            -- an item is a plain value
            have := w2 items[i] (List.getElem?_eq_getElem hlt)
            cases hit : items[i] with
            | val d => rw [hit] at r3; exact r3
            | bval d => rw [hit] at r3; exact r3
            | slot j => rw [hit] at r3; exact r3
            | fresh d =>
              rw [hit] at r3
              obtain ⟨a, q1, q2, q3, q4, q5, q6⟩ := r3
              refine ⟨a, q1, q2, q3, q4, fun k s e m => ?_, q6⟩
              rcases wipeS_get e with rfl | ⟨k1, k2⟩
              · cases m
              · exact q5 k s k1 m
          refine qg (fx.with D (.lst accV)) F3 G3 H3 (wipeS sd2 vs) sd3 (wipe σ vs) items[i] x _ S3w hr eg fun F4 G4 H4 σ4 j5 j6 S4 ho => ?_
          have hl4 : σ4.length = σ.length := by rw [ho.len, wipe_length]
          have hout : ∀ i, i ∉ vs → σ4[i]? = σ[i]? := fun i hi => by rw [ho.out i (fun z => hi (hsl i z)), wipe_get hi]
          have hout2 : ∀ i, i ∉ vs → (wipe σ vs)[i]? = σ4[i]? := fun i hi => by rw [wipe_get hi, hout i hi]
          refine ⟨wipe_eq hl4 hout, qt (fx.with D (.lst accV)) F4 G4 H4 sd3 σ4 _ S4 ?_⟩
          have h2 := Po.mono j5 j6 h2
          dsimp only at h2
          cases et : mt sd3 with
          | fail => rw [et] at h2; exact h2.elim
          | exc x s => rw [et] at h2; exact h2.elim
          | ok b sd4 =>
            rw [et] at h2
            intro F5 G5 H5 b' j7 j8 S5 eb
            subst eb
            have h2 := Po.mono j7 j8 h2
            have k1 := (((j1.trans j3).trans j5).trans j7)
            have k2 := (((j2.trans j4).trans j6).trans j8)
            cases b with
            | false =>
              refine iteF ⟨F5, G5, wipeS sd4 vs, acc, accV, k1, k2, S5.wiped (by rw [wipe_length, hl4]) hout2, rl.keep ((j3.trans j5).trans j7), ?_⟩
              rw [compGo_wipe]
              exact h2
            | true =>
              refine iteT (qe (fx.with D (.lst accV)) F5 G5 H5 sd4 σ4 _ S5 ?_)
              dsimp only at h2
              unfold mBind at h2
              cases em : me sd4 with
              | fail => rw [em] at h2; exact h2.elim
              | exc x s => rw [em] at h2; exact h2.elim
              | ok r sd5 =>
                rw [em] at h2
                intro F6 G6 H6 yv j9 j10 S6 ry
                obtain ⟨F7, G7, i1, i2, S7, ry⟩ := ry.keep S6
                have h2 := Po.mono (j9.trans i1) (j10.trans i2) h2
                unfold R.bind at h2
                dsimp only at h2
                cases es : mShare r sd5 with
                | fail => rw [es] at h2; exact h2.elim
                | exc x s => rw [es] at h2; exact h2.elim
                | ok d sd6 =>
                  rw [es] at h2
                  obtain ⟨F8, G8, i3, i4, S8, rd⟩ := share_ok S7 ry es
                  have h2 := Po.mono i3 i4 h2
                  obtain ⟨hD6, _, _⟩ := S8.held D (.lst accV) List.mem_cons_self
                  dsimp only at h2
                  split at h2
                  · rename_i hz
                    have ga := ((j9.trans i1).trans i3)
                    have rl' := rl.keep ((((j3.trans j5).trans j7).trans ga))
                    refine ⟨accV, hD6, by rw [rl.lenD]; exact hz, F8, G8, wipeS sd6 vs, acc ++ [d], accV ++ [yv], k1.trans ga, k2.trans ((j10.trans i2).trans i4), ?_, rl'.append (RepL.single rd), ?_⟩
                    · exact (S8.holdSet hnd).wiped (by rw [wipe_length, hl4]) hout2
                    · rw [compGo_wipe]
                      exact h2
                  · exact h2.elim
      · have e : i = items.length := by omega
        subst e
        rw [List.drop_length] at h2
        unfold compGo at h2
        obtain ⟨hD, hG, hH⟩ := S2.held D (.lst accV) List.mem_cons_self
        have fr := S2.free D (.lst accV) List.mem_cons_self
        have S9 : SR (wd X) fx F2 G2 H2 (wipeS sd2 vs) σ := S2.unhold.wiped (wipe_length _ _).symm fun i hi => (wipe_get hi).symm
        refine .inl ⟨w1 rfl, h2 F2 G2 H2 _ (Same.refl _) (Same.refl _) S9 ⟨D, rfl, hG, hH, ⟨accV, hD, rl⟩, fun k s e m => ?_, hnd⟩⟩
        rcases wipeS_get e with rfl | ⟨q1, q2⟩
        · cases m
        · rw [← wipe_get q2]
          exact fr k s q1 m
section
variable {fx : Fx} {X : Cx} {Wx : WX} {pos : Pos}
theorem se_lc {scope : Scope} {own : List (Str × Nat)} {tg elt iter : Expr} {ifs : List Expr} {sl : List Nat} {mi : M (List RV)} {g : MG} {mt : M Bool} {me : M RV} (hc : X.calm = true) (hN : X.N.Nodup) (hi : SI fx X Wx tg iter mi) (ok : BlkOk X.N X.env.scope scope own) (hg : SGb X scope tg sl g) (ht : STb X scope ifs mt) (he : SEb X scope elt me)
    (hsl : ∀ i ∈ sl, i ∈ own.map (·.2)) (hs : ∀ x, foldedSetIterable iter X.env x = pure x := by intro _; rfl) : SE fx X Wx (.ListComp elt [⟨tg, iter, ifs, 0⟩] scope pos) (mComp (own.map (·.2)) mi g mt me) := by
  obtain ⟨wi, pi, qi⟩ := hi.ex
  obtain ⟨tg', pg, qg⟩ := hg.ex
  obtain ⟨tt, pt, qt⟩ := ht.ex
  obtain ⟨te, pe, qe⟩ := he.ex
  exact ⟨_, pe_lc hc hN pi ok pg pt pe hs, fun F G H sd σ Q S h => lc_in (scope := scope) (tg := tg) (elt := elt) (ifs := ifs) qi qg qt qe hsl S h⟩
/-- y = [..] -/
theorem ss_setLc {i : Nat} {y : Str} {py spos : Pos} {scope : Scope} {own : List (Str × Nat)} {tg elt iter : Expr} {ifs : List Expr} {sl : List Nat} {mi : M (List RV)} {g : MG} {mt : M Bool} {me : M RV} (hc : X.calm = true) (hN : X.N.Nodup) (hy : X.N[i]? = some y) (hyl : X.env.scope.names.lookup y = some .local)
    (hsw : swapsWith (.ListComp elt [⟨tg, iter, ifs, 0⟩] scope pos) (some (.Name y py)) spos.line X.env = pure true) (hi : SI fx X Wx tg iter mi) (ok : BlkOk X.N X.env.scope scope own) (hg : SGb X scope tg sl g) (ht : STb X scope ifs mt) (he : SEb X scope elt me)
    (hsl : ∀ i ∈ sl, i ∈ own.map (·.2)) (hs : ∀ x, foldedSetIterable iter X.env x = pure x := by intro _; rfl) : SS fx X Wx (.Assign [.Name y py] (.ListComp elt [⟨tg, iter, ifs, 0⟩] scope pos) spos) (mAsg (putSlot i) (mComp (own.map (·.2)) mi g mt me)) := by
  obtain ⟨wi, pi, qi⟩ := hi.ex
  obtain ⟨tg', pg, qg⟩ := hg.ex
  obtain ⟨tt, pt, qt⟩ := ht.ex
  obtain ⟨te, pe, qe⟩ := he.ex
  refine ⟨_, ps_setLc hc hN hy hyl hsw pi ok pg pt pe hs, fun F G H sd σ D S h => ?_⟩
  refine oneS (ta := tLc wi tg' tt te (own.map (·.2))) (fun F G H sd σ Q S h => lc_in (scope := scope) (tg := tg) (elt := elt) (ifs := ifs) qi qg qt qe hsl S h) S h fun F1 G1 H1 sd1 ra v e1 e2 S1 r1 h => ?_
  cases eg : putSlot i ra sd1 with
  | none => rw [eg] at h; exact h.elim
  | some sd2 =>
    rw [eg] at h
    obtain ⟨F', G', e3, e4, S'⟩ := put_ok S1 r1 eg
    exact h F' G' H1 _ e3 e4 S'
end
end Av

/-! list comprehensions with two clauses -/
namespace Av
open PySem L2
def inGo (vs : List Nat) (g : MG) (mt : M Bool) (me : M RV) : List RV → List D → List SV → Option (List D × List SV)
  | [], acc, sd => some (acc, wipeS sd vs)
  | r :: rs, acc, sd => match g r (wipeS sd vs) with
    | none => none
    | some sd1 => match mt sd1 with
      | .ok true sd2 => match (mBind me mShare) sd2 with
        | .ok d sd3 => if acc.length < sizeLine then inGo vs g mt me rs (acc ++ [d]) sd3 else none
        | _ => none
      | .ok false sd2 => inGo vs g mt me rs acc sd2
      | _ => none
def outGo (vs : List Nat) (g : MG) (mt : M Bool) (mi1 : M (List RV)) (inner : List RV → List D → List SV → Option (List D × List SV)) : List RV → List D → List SV → R RV
  | [], acc, sd => .ok (.fresh (.lst acc)) (wipeS sd vs)
  | r :: rs, acc, sd => match g r (wipeS sd vs) with
    | none => .fail
    | some sd1 => match mt sd1 with
      | .ok true sd2 => match mi1 sd2 with
        | .ok items sd3 => match inner items acc sd3 with
          | some (acc, sd4) => outGo vs g mt mi1 inner rs acc sd4
          | none => .fail
        | _ => .fail
      | .ok false sd2 => outGo vs g mt mi1 inner rs acc sd2
      | _ => .fail
def mComp2 (vs vs1 : List Nat) (mi : M (List RV)) (g : MG) (mt : M Bool) (mi1 : M (List RV)) (g1 : MG) (mt1 : M Bool) (me : M RV) : M RV := mBind mi fun items => outGo vs g mt mi1 (inGo vs1 g1 mt1 me) items []
theorem outGo_wipe {vs : List Nat} {g : MG} {mt : M Bool} {mi1 : M (List RV)} {inner : List RV → List D → List SV → Option (List D × List SV)} (items : List RV) (acc : List D) (sd : List SV) : outGo vs g mt mi1 inner items acc (wipeS sd vs) = outGo vs g mt mi1 inner items acc sd := by
  cases items with
  | nil => unfold outGo; rw [wipeS_wipeS]
  | cons r rs => unfold outGo; rw [wipeS_wipeS]
theorem inGo_wipe {vs : List Nat} {g : MG} {mt : M Bool} {me : M RV} (items : List RV) (acc : List D) (sd : List SV) : inGo vs g mt me items acc (wipeS sd vs) = inGo vs g mt me items acc sd := by
  cases items with
  | nil => unfold inGo; rw [wipeS_wipeS]
  | cons r rs => unfold inGo; rw [wipeS_wipeS]
theorem items_wiped {W : Wd} {fx : Fx} {F G H : Hp} {sd : List SV} {σ : L2.St} {vs : List Nat} {r : RV} {x : V} (q : RVR W fx F G H sd σ r x) : RVR W fx F G H (wipeS sd vs) σ r x := by
  cases r with
  | val d => exact q
  | bval d => exact q
  | slot j => exact q
  | fresh d =>
    obtain ⟨a, q1, q2, q3, q4, q5, q6⟩ := q
    refine ⟨a, q1, q2, q3, q4, fun k s e m => ?_, q6⟩
    rcases wipeS_get e with rfl | ⟨k1, k2⟩
    · cases m
    · exact q5 k s k1 m
section
variable {X : Cx} {scope : Scope}
theorem in_in {fx : Fx} {vs sl : List Nat} {g : MG} {mt : M Bool} {me : M RV} {tg' : TG} {tt : TT} {te : TE} {D : Addr} {J : It} {items : List RV} {F1 G1 : Hp}
    (qg : ∀ fx F G H sd sd' σ rv v (Q : L2.St → Hp → Prop), SR (wd X) fx F G H sd σ → RVR (wd X) fx F G H sd σ rv v → g rv sd = some sd' → (∀ F' G' H' σ', Same F F' → Same G G' → SR (wd X) fx F' G' H' sd' σ' → Off sl σ σ' → Q σ' H') → tg' v σ H Q)
    (qt : ∀ fx F G H sd σ Q, SR (wd X) fx F G H sd σ → Po (wd X) fx F G σ (fun _ _ _ _ => False) RlT Q (mt sd) → tt σ H Q)
    (qe : ∀ fx F G H sd σ Q, SR (wd X) fx F G H sd σ → Po (wd X) fx F G σ (fun _ _ _ _ => False) (RlE (wd X) fx σ) Q (me sd) → te σ H Q)
    (hsl : ∀ i ∈ sl, i ∈ vs) (hnd : ∀ o, (D, o) ∉ fx.hold) (wk : Walks (wd X) F1 G1 J items) {H1 : Hp} {sd1 : List SV} {σ : L2.St} {acc accV} (S1 : SR (wd X) (fx.with D (.lst accV)) F1 G1 H1 sd1 (wipe σ vs)) (rl : RepL (wd X) F1 acc accV) {acc' : List Av.D} {sd' : List SV} (h : inGo vs g mt me items acc sd1 = some (acc', sd'))
    {Nx : Hp → Prop} (K : ∀ F' G' H' accV', Same F1 F' → Same G1 G' → SR (wd X) (fx.with D (.lst accV')) F' G' H' sd' (wipe σ vs) → RepL (wd X) F' acc' accV' → Nx H') :
    ∃ W1 : Nat → Nat → Hp → Prop, (∃ m, W1 0 m H1) ∧ ∀ j k H, W1 j k H →
      (J.stop j H ∧ Nx H) ∨ (J.go j H ∧ ∃ Nx1 : Hp → Prop, (∀ H', Nx1 H' → ∃ k', k' < k ∧ W1 (j + 1) k' H') ∧ ∀ x H', J.yld j H x H' → tg' x (wipe σ vs) H' fun σ3 H5 => wipe σ3 vs = wipe σ vs ∧ tt σ3 H5 fun b H6 =>
        if b = true then te σ3 H6 fun y H7 => ∃ acc, H7 D = some (.lst acc) ∧ acc.length < sizeLine ∧ Nx1 (upd H7 D (.lst (acc ++ [y]))) else Nx1 H6) := by
  refine ⟨fun i m H' => m = items.length - i ∧ i ≤ items.length ∧ ∃ F' G' sd2 acc2 accV2, Same F1 F' ∧ Same G1 G' ∧ SR (wd X) (fx.with D (.lst accV2)) F' G' H' sd2 (wipe σ vs) ∧ RepL (wd X) F' acc2 accV2 ∧ inGo vs g mt me (items.drop i) acc2 sd2 = some (acc', sd'),
    ⟨items.length, by simp, Nat.zero_le _, F1, G1, sd1, acc, accV, Same.refl _, Same.refl _, S1, rl, by simpa using h⟩, ?_⟩
  rintro i m H2 ⟨rfl, hi, F2, G2, sd2, acc, accV, j1, j2, S2, rl, h2⟩
  obtain ⟨w1, w2⟩ := wk (fx.with D (.lst accV)) i F2 G2 H2 sd2 (wipe σ vs) j1 j2 S2
  by_cases hlt : i < items.length
  · obtain ⟨go, y⟩ := w2 items[i] (List.getElem?_eq_getElem hlt)
    refine .inr ⟨go, fun H' => ∃ F' G' sd2 acc2 accV2, Same F1 F' ∧ Same G1 G' ∧ SR (wd X) (fx.with D (.lst accV2)) F' G' H' sd2 (wipe σ vs) ∧ RepL (wd X) F' acc2 accV2 ∧ inGo vs g mt me (items.drop (i + 1)) acc2 sd2 = some (acc', sd'),
      fun H' n => ⟨items.length - (i + 1), by omega, rfl, hlt, n⟩, fun x H3 yx => ?_⟩
    obtain ⟨F3, G3, j3, j4, S3, r3⟩ := y x H3 yx
    rw [List.drop_eq_getElem_cons hlt] at h2
    unfold inGo at h2
    cases eg : g items[i] (wipeS sd2 vs) with
    | none => rw [eg] at h2; cases h2
    | some sd3 =>
      rw [eg] at h2
      have S3w : SR (wd X) (fx.with D (.lst accV)) F3 G3 H3 (wipeS sd2 vs) (wipe σ vs) := S3.wiped rfl fun _ _ => rfl
      refine qg (fx.with D (.lst accV)) F3 G3 H3 (wipeS sd2 vs) sd3 (wipe σ vs) items[i] x _ S3w (items_wiped r3) eg fun F4 G4 H4 σ4 j5 j6 S4 ho => ?_
      have hl4 : σ4.length = σ.length := by rw [ho.len, wipe_length]
      have hout : ∀ i, i ∉ vs → σ4[i]? = σ[i]? := fun i hi => by rw [ho.out i (fun z => hi (hsl i z)), wipe_get hi]
      have hout2 : ∀ i, i ∉ vs → (wipe σ vs)[i]? = σ4[i]? := fun i hi => by rw [wipe_get hi, hout i hi]
      refine ⟨wipe_eq hl4 hout, qt (fx.with D (.lst accV)) F4 G4 H4 sd3 σ4 _ S4 ?_⟩
      dsimp only at h2
      cases et : mt sd3 with
      | fail => rw [et] at h2; cases h2
      | exc x s => rw [et] at h2; cases h2
      | ok b sd4 =>
        rw [et] at h2
        intro F5 G5 H5 b' j7 j8 S5 eb
        subst eb
        have k1 := (((j1.trans j3).trans j5).trans j7)
        have k2 := (((j2.trans j4).trans j6).trans j8)
        cases b with
        | false =>
          exact iteF ⟨F5, G5, wipeS sd4 vs, acc, accV, k1, k2, S5.wiped (by rw [wipe_length, hl4]) hout2, rl.keep ((j3.trans j5).trans j7), by rw [inGo_wipe]; exact h2⟩
        | true =>
          refine iteT (qe (fx.with D (.lst accV)) F5 G5 H5 sd4 σ4 _ S5 ?_)
          dsimp only at h2
          unfold mBind at h2
          cases em : me sd4 with
          | fail => rw [em] at h2; cases h2
          | exc x s => rw [em] at h2; cases h2
          | ok r sd5 =>
            rw [em] at h2
            intro F6 G6 H6 yv j9 j10 S6 ry
            obtain ⟨F7, G7, i1, i2, S7, ry⟩ := ry.keep S6
            unfold R.bind at h2
            dsimp only at h2
            cases es : mShare r sd5 with
            | fail => rw [es] at h2; cases h2
            | exc x s => rw [es] at h2; cases h2
            | ok d sd6 =>
              rw [es] at h2
              obtain ⟨F8, G8, i3, i4, S8, rd⟩ := share_ok S7 ry es
              obtain ⟨hD6, _, _⟩ := S8.held D (.lst accV) List.mem_cons_self
              dsimp only at h2
              split at h2
              · rename_i hz
                have ga := ((j9.trans i1).trans i3)
                have rl' := rl.keep ((((j3.trans j5).trans j7).trans ga))
                exact ⟨accV, hD6, by rw [rl.lenD]; exact hz, F8, G8, wipeS sd6 vs, acc ++ [d], accV ++ [yv], k1.trans ga, k2.trans ((j10.trans i2).trans i4), (S8.holdSet hnd).wiped (by rw [wipe_length, hl4]) hout2, rl'.append (RepL.single rd), by rw [inGo_wipe]; exact h2⟩
              · cases h2
  · have e : i = items.length := by omega
    subst e
    rw [List.drop_length] at h2
    unfold inGo at h2
    cases h2
    refine .inl ⟨w1 rfl, K F2 G2 H2 accV j1 j2 (S2.wiped rfl fun _ _ => rfl) rl⟩
theorem lc2_in {fx : Fx} {Wx : WX} {wi wi1 : TI} {vs vs1 sl sl1 : List Nat} {mi mi1 : M (List RV)} {g g1 : MG} {mt mt1 : M Bool} {me : M RV} {tg' tg1 : TG} {tt tt1 : TT} {te : TE}
    (qi : ∀ F G H sd σ Rj, SR (wd X) fx F G H sd σ → PoI (wd X) fx F G σ Wx Rj (mi sd) → wi σ H Rj)
    (qg : ∀ fx F G H sd sd' σ rv v (Q : L2.St → Hp → Prop), SR (wd X) fx F G H sd σ → RVR (wd X) fx F G H sd σ rv v → g rv sd = some sd' → (∀ F' G' H' σ', Same F F' → Same G G' → SR (wd X) fx F' G' H' sd' σ' → Off sl σ σ' → Q σ' H') → tg' v σ H Q)
    (qt : ∀ fx F G H sd σ Q, SR (wd X) fx F G H sd σ → Po (wd X) fx F G σ (fun _ _ _ _ => False) RlT Q (mt sd) → tt σ H Q)
    (qi1 : ∀ fx F G H sd σ Rj, SR (wd X) fx F G H sd σ → PoI (wd X) fx F G σ (fun _ _ _ _ => False) Rj (mi1 sd) → wi1 σ H Rj)
    (qg1 : ∀ fx F G H sd sd' σ rv v (Q : L2.St → Hp → Prop), SR (wd X) fx F G H sd σ → RVR (wd X) fx F G H sd σ rv v → g1 rv sd = some sd' → (∀ F' G' H' σ', Same F F' → Same G G' → SR (wd X) fx F' G' H' sd' σ' → Off sl1 σ σ' → Q σ' H') → tg1 v σ H Q)
    (qt1 : ∀ fx F G H sd σ Q, SR (wd X) fx F G H sd σ → Po (wd X) fx F G σ (fun _ _ _ _ => False) RlT Q (mt1 sd) → tt1 σ H Q)
    (qe : ∀ fx F G H sd σ Q, SR (wd X) fx F G H sd σ → Po (wd X) fx F G σ (fun _ _ _ _ => False) (RlE (wd X) fx σ) Q (me sd) → te σ H Q)
    (hsl : ∀ i ∈ sl, i ∈ vs) (hsl1 : ∀ i ∈ sl1, i ∈ vs1) (hv : ∀ i ∈ vs1, i ∈ vs) {F G H : Hp} {sd : List SV} {σ : L2.St} {Q : VK} (S : SR (wd X) fx F G H sd σ) (h : Po (wd X) fx F G σ Wx (RlE (wd X) fx σ) Q (mComp2 vs vs1 mi g mt mi1 g1 mt1 me sd)) : tLc2 wi tg' tt wi1 tg1 tt1 te vs vs1 σ H Q := by
  refine qi F G H sd σ _ S ?_
  unfold mComp2 mBind at h
  cases ei : mi sd with
  | fail => rw [ei] at h; exact h
  | exc x sd1 => rw [ei] at h; exact h
  | ok items sd1 =>
    rw [ei] at h
    intro F1 G1 H1 J e1 e2 S1 wk D hD
    have h : Po (wd X) fx F1 G1 σ Wx (RlE (wd X) fx σ) Q (outGo vs g mt mi1 (inGo vs1 g1 mt1 me) items [] sd1) := Po.mono e1 e2 h
    have hnd : ∀ o, (D, o) ∉ fx.hold := fun o hm => by rw [(S1.held D o hm).1] at hD; cases hD
    refine ⟨fun i m H' => m = items.length - i ∧ i ≤ items.length ∧ ∃ F' G' sd' acc accV, Same F1 F' ∧ Same G1 G' ∧ SR (wd X) (fx.with D (.lst accV)) F' G' H' sd' (wipe σ vs) ∧ RepL (wd X) F' acc accV ∧ Po (wd X) fx F' G' σ Wx (RlE (wd X) fx σ) Q (outGo vs g mt mi1 (inGo vs1 g1 mt1 me) (items.drop i) acc sd'),
      ⟨items.length, by simp, Nat.zero_le _, F1, G1, wipeS sd1 vs, [], [], Same.refl _, Same.refl _, ?_, RepL.nil, ?_⟩, ?_⟩
    · exact SR.wiped (S1.holdNew hD) (wipe_length _ _) fun i hi => wipe_get hi
    · rw [List.drop_zero, outGo_wipe]
      exact h
    · rintro i m H2 ⟨rfl, hi, F2, G2, sd2, acc, accV, j1, j2, S2, rl, h2⟩
      obtain ⟨w1, w2⟩ := wk (fx.with D (.lst accV)) i F2 G2 H2 sd2 (wipe σ vs) j1 j2 S2
      by_cases hlt : i < items.length
      · obtain ⟨go, y⟩ := w2 items[i] (List.getElem?_eq_getElem hlt)
        refine .inr ⟨go, fun H' => ∃ F' G' sd' acc accV, Same F1 F' ∧ Same G1 G' ∧ SR (wd X) (fx.with D (.lst accV)) F' G' H' sd' (wipe σ vs) ∧ RepL (wd X) F' acc accV ∧ Po (wd X) fx F' G' σ Wx (RlE (wd X) fx σ) Q (outGo vs g mt mi1 (inGo vs1 g1 mt1 me) (items.drop (i + 1)) acc sd'),
          fun H' n => ⟨items.length - (i + 1), by omega, rfl, hlt, n⟩, fun x H3 yx => ?_⟩
        obtain ⟨F3, G3, j3, j4, S3, r3⟩ := y x H3 yx
        rw [List.drop_eq_getElem_cons hlt] at h2
        unfold outGo at h2
        have h2 := Po.mono j3 j4 h2
        cases eg : g items[i] (wipeS sd2 vs) with
        | none => rw [eg] at h2; exact h2.elim
        | some sd3 =>
          rw [eg] at h2
          have S3w : SR (wd X) (fx.with D (.lst accV)) F3 G3 H3 (wipeS sd2 vs) (wipe σ vs) := S3.wiped rfl fun _ _ => rfl
          refine qg (fx.with D (.lst accV)) F3 G3 H3 (wipeS sd2 vs) sd3 (wipe σ vs) items[i] x _ S3w (items_wiped r3) eg fun F4 G4 H4 σ4 j5 j6 S4 ho => ?_
          have hl4 : σ4.length = σ.length := by rw [ho.len, wipe_length]
          have hout : ∀ i, i ∉ vs → σ4[i]? = σ[i]? := fun i hi => by rw [ho.out i (fun z => hi (hsl i z)), wipe_get hi]
          have hout2 : ∀ i, i ∉ vs → (wipe σ vs)[i]? = σ4[i]? := fun i hi => by rw [wipe_get hi, hout i hi]
          refine ⟨wipe_eq hl4 hout, qt (fx.with D (.lst accV)) F4 G4 H4 sd3 σ4 _ S4 ?_⟩
          have h2 := Po.mono j5 j6 h2
          dsimp only at h2
          cases et : mt sd3 with
          | fail => rw [et] at h2; exact h2.elim
          | exc x s => rw [et] at h2; exact h2.elim
          | ok b sd4 =>
            rw [et] at h2
            intro F5 G5 H5 b' j7 j8 S5 eb
            subst eb
            have h2 := Po.mono j7 j8 h2
            have k1 := (((j1.trans j3).trans j5).trans j7)
            have k2 := (((j2.trans j4).trans j6).trans j8)
            cases b with
            | false =>
              refine iteF ⟨F5, G5, wipeS sd4 vs, acc, accV, k1, k2, S5.wiped (by rw [wipe_length, hl4]) hout2, rl.keep ((j3.trans j5).trans j7), ?_⟩
              rw [outGo_wipe]
              exact h2
            | true =>
              refine iteT (qi1 (fx.with D (.lst accV)) F5 G5 H5 sd4 σ4 _ S5 ?_)
              dsimp only at h2
              cases em : mi1 sd4 with
              | fail => rw [em] at h2; exact h2.elim
              | exc x s => rw [em] at h2; exact h2.elim
              | ok items1 sd5 =>
                rw [em] at h2
                intro F6 G6 H6 J1 j9 j10 S6 wk1
                have h2 := Po.mono j9 j10 h2
                dsimp only at h2
                cases en : inGo vs1 g1 mt1 me items1 acc sd5 with
                | none => rw [en] at h2; exact h2.elim
                | some p =>
                  obtain ⟨acc', sd6⟩ := p
                  rw [en] at h2
                  have S6w : SR (wd X) (fx.with D (.lst accV)) F6 G6 H6 (wipeS sd5 vs1) (wipe σ4 vs1) := S6.wiped (wipe_length _ _) fun i hi => wipe_get hi
                  refine in_in qg1 qt1 qe hsl1 hnd wk1 S6w (rl.keep (((j3.trans j5).trans j7).trans j9)) (by rw [inGo_wipe]; exact en) fun F7 G7 H7 accV7 i1 i2 S7 rl7 => ?_
                  refine ⟨F7, G7, wipeS sd6 vs, acc', accV7, (k1.trans j9).trans i1, (k2.trans j10).trans i2, S7.wiped (by rw [wipe_length, wipe_length, hl4]) (fun i hi => ?_), rl7, ?_⟩
                  · rw [wipe_get hi, wipe_get (fun z => hi (hv i z)), hout i hi]
                  · rw [outGo_wipe]
                    exact Po.mono i1 i2 h2
      · have e : i = items.length := by omega
        subst e
        rw [List.drop_length] at h2
        unfold outGo at h2
        obtain ⟨hD, hG, hH⟩ := S2.held D (.lst accV) List.mem_cons_self
        have fr := S2.free D (.lst accV) List.mem_cons_self
        have S9 : SR (wd X) fx F2 G2 H2 (wipeS sd2 vs) σ := S2.unhold.wiped (wipe_length _ _).symm fun i hi => (wipe_get hi).symm
        refine .inl ⟨w1 rfl, h2 F2 G2 H2 _ (Same.refl _) (Same.refl _) S9 ⟨D, rfl, hG, hH, ⟨accV, hD, rl⟩, fun k s e m => ?_, hnd⟩⟩
        rcases wipeS_get e with rfl | ⟨q1, q2⟩
        · cases m
        · rw [← wipe_get q2]
          exact fr k s q1 m
end
section
variable {fx : Fx} {X : Cx} {Wx : WX} {pos : Pos}
theorem se_lc2 {scope : Scope} {own : List (Str × Nat)} {tg elt iter tg1 iter1 : Expr} {ifs ifs1 : List Expr} {sl sl1 vs1 : List Nat} {mi mi1 : M (List RV)} {g g1 : MG} {mt mt1 : M Bool} {me : M RV} (hc : X.calm = true) (hN : X.N.Nodup) (hi : SI fx X Wx tg iter mi) (ok : BlkOk X.N X.env.scope scope own) (hg : SGb X scope tg sl g) (ht : STb X scope ifs mt)
    (hi1 : SIb X scope tg1 iter1 mi1) (hg1 : SGb X scope tg1 sl1 g1) (ht1 : STb X scope ifs1 mt1) (he : SEb X scope elt me)
    (hsl : ∀ i ∈ sl, i ∈ own.map (·.2)) (hsl1 : ∀ i ∈ sl1, i ∈ vs1) (hv : ∀ i ∈ vs1, i ∈ own.map (·.2)) (hs : ∀ x, foldedSetIterable iter X.env x = pure x := by intro _; rfl) (hs1 : ∀ env x, foldedSetIterable iter1 env x = pure x := by intro _ _; rfl) :
    SE fx X Wx (.ListComp elt [⟨tg, iter, ifs, 0⟩, ⟨tg1, iter1, ifs1, 0⟩] scope pos) (mComp2 (own.map (·.2)) vs1 mi g mt mi1 g1 mt1 me) := by
  obtain ⟨wi, pi, qi⟩ := hi.ex
  obtain ⟨tg', pg, qg⟩ := hg.ex
  obtain ⟨tt, pt, qt⟩ := ht.ex
  obtain ⟨wi1, pi1, qi1⟩ := hi1.ex
  obtain ⟨tg1', pg1, qg1⟩ := hg1.ex
  obtain ⟨tt1, pt1, qt1⟩ := ht1.ex
  obtain ⟨te, pe, qe⟩ := he.ex
  exact ⟨_, pe_lc2 hc hN pi ok hv pg pt pi1 pg1 pt1 pe hs hs1, fun F G H sd σ Q S h => lc2_in qi qg qt qi1 qg1 qt1 qe hsl hsl1 hv S h⟩
theorem ss_setLc2 {i : Nat} {y : Str} {py spos : Pos} {scope : Scope} {own : List (Str × Nat)} {tg elt iter tg1 iter1 : Expr} {ifs ifs1 : List Expr} {sl sl1 vs1 : List Nat} {mi mi1 : M (List RV)} {g g1 : MG} {mt mt1 : M Bool} {me : M RV} (hc : X.calm = true) (hN : X.N.Nodup) (hy : X.N[i]? = some y) (hyl : X.env.scope.names.lookup y = some .local)
    (hsw : swapsWith (.ListComp elt [⟨tg, iter, ifs, 0⟩, ⟨tg1, iter1, ifs1, 0⟩] scope pos) (some (.Name y py)) spos.line X.env = pure true) (hi : SI fx X Wx tg iter mi) (ok : BlkOk X.N X.env.scope scope own) (hg : SGb X scope tg sl g) (ht : STb X scope ifs mt)
    (hi1 : SIb X scope tg1 iter1 mi1) (hg1 : SGb X scope tg1 sl1 g1) (ht1 : STb X scope ifs1 mt1) (he : SEb X scope elt me)
    (hsl : ∀ i ∈ sl, i ∈ own.map (·.2)) (hsl1 : ∀ i ∈ sl1, i ∈ vs1) (hv : ∀ i ∈ vs1, i ∈ own.map (·.2)) (hs : ∀ x, foldedSetIterable iter X.env x = pure x := by intro _; rfl) (hs1 : ∀ env x, foldedSetIterable iter1 env x = pure x := by intro _ _; rfl) :
    SS fx X Wx (.Assign [.Name y py] (.ListComp elt [⟨tg, iter, ifs, 0⟩, ⟨tg1, iter1, ifs1, 0⟩] scope pos) spos) (mAsg (putSlot i) (mComp2 (own.map (·.2)) vs1 mi g mt mi1 g1 mt1 me)) := by
  obtain ⟨wi, pi, qi⟩ := hi.ex
  obtain ⟨tg', pg, qg⟩ := hg.ex
  obtain ⟨tt, pt, qt⟩ := ht.ex
  obtain ⟨wi1, pi1, qi1⟩ := hi1.ex
  obtain ⟨tg1', pg1, qg1⟩ := hg1.ex
  obtain ⟨tt1, pt1, qt1⟩ := ht1.ex
  obtain ⟨te, pe, qe⟩ := he.ex
  refine ⟨_, ps_setLc2 hc hN hy hyl hsw pi ok hv pg pt pi1 pg1 pt1 pe hs hs1, fun F G H sd σ D S h => ?_⟩
  refine oneS (ta := tLc2 wi tg' tt wi1 tg1' tt1 te (own.map (·.2)) vs1) (fun F G H sd σ Q S h => lc2_in qi qg qt qi1 qg1 qt1 qe hsl hsl1 hv S h) S h fun F1 G1 H1 sd1 ra v e1 e2 S1 r1 h => ?_
  cases eg : putSlot i ra sd1 with
  | none => rw [eg] at h; exact h.elim
  | some sd2 =>
    rw [eg] at h
    obtain ⟨F', G', e3, e4, S'⟩ := put_ok S1 r1 eg
    exact h F' G' H1 _ e3 e4 S'
end
end Av

/-! tuple(range(..)); sorted(..) of lists, any data -/
namespace Av
open PySem L2
section
variable {fx : Fx} {X : Cx} {Wx : WX} {e a b c : Expr} {pos : Pos}
theorem int?_some {d : D} {i : Int} (h : d.int? = some i) : d = .int i := by
  cases d <;> first | (cases h; rfl) | cases h
def intsD (lo : Int) (n : Nat) : List D := (List.range n).map fun (i : Nat) => D.int (lo + (i : Int))
theorem intsD_rep {W : Wd} {H : Hp} (lo hi : Int) : RepL W H (intsD lo (hi - lo).toNat) (rgV lo hi) := by
  have e : intsD lo (hi - lo).toNat = ((List.range (hi - lo).toNat).map fun (i : Nat) => lo + (i : Int)).map D.int := by unfold intsD; rw [List.map_map]; rfl
  have e2 : rgV lo hi = ((List.range (hi - lo).toNat).map fun (i : Nat) => lo + (i : Int)).map V.int := by unfold rgV; rw [List.map_map]; rfl
  rw [e, e2]
  exact RepL.of_ints _
def mTupRg (ma : M RV) : M RV := mBind ma fun r => mBind (mRead r.keep) fun d => mBind (mGet d.int?) fun n => if 0 ≤ n ∧ n ≤ 1000000 then mPure (.val (.tup (intsD 0 n.toNat))) else mFail
theorem se_tupRg {p p2 pos2 : Pos} {ma : M RV} (hc : X.calm = true) (hg : Gl X "tuple") (hm : X.mg "tuple" = none) (hg2 : Gl X "range") (hm2 : X.mg "range" = none) (ha : SE fx X Wx a ma)
    (na2 : starEach [a] X.env = (false, eval a X.env) :: starEach [] X.env := by rfl) (na : starEach [.Call (.Name "range" p2) [a] [] pos2] X.env = (false, eval (.Call (.Name "range" p2) [a] [] pos2) X.env) :: starEach [] X.env := by rfl) :
    SE fx X Wx (.Call (.Name "tuple" p) [.Call (.Name "range" p2) [a] [] pos2] [] pos) (mTupRg ma) := by
  obtain ⟨t, pa, q⟩ := ha.ex
  refine ⟨_, pe_tupRg hc hg hm (prg_1 hg2 hm2 pa na2) na, fun F G H sd σ Q S h => one q S h fun F1 G1 H1 sd1 ra v e1 e2 S1 r1 h1 => ?_⟩
  obtain ⟨d, k1, h2⟩ := h1.read
  obtain ⟨n, k2, h3⟩ := h2.getB
  have r := r1.read S1 k1
  have k2' := int?_some k2
  subst k2'
  obtain rfl := r.int_inv
  clear h h1 h2
  by_cases hn : 0 ≤ n ∧ n ≤ 1000000
  · rw [if_pos hn] at h3
    have h62 : (2 : Int) ^ 62 = 4611686018427387904 := by decide
    have h24 : (2 : Nat) ^ 24 = 16777216 := by decide
    refine ⟨n, rfl, ⟨by omega, by omega, by omega, by omega, by omega⟩, fun w hw => ?_⟩
    have hr := intsD_rep (W := wd X) (H := F1) 0 n
    rw [Int.sub_zero] at hr
    exact out_newSh S1 (fun F' G' H' w => h3 F' G' H' w) hr hw
  · rw [if_neg hn] at h3
    exact h3.elim
end

/-! ### sorted -/
section
open PySem.W PySem.Calls PyProof.Rows
variable {prog : Program} {w : World} {A : Around} {E : Value → Shared → Prop} {s : Shared}
theorem call_tuple_lt {Q : Value → Shared → Prop} {l b : Addr} {items items2 : Array Value} {e r : Nat → Bool} (hl : s.heap.IsTuple l items) (hb : s.heap.IsTuple b items2)
    (he : ∀ j (h1 : j < items.size) (h2 : j < items2.size), SeqAt.EqAt A.in1 s items[j] items2[j] (e j)) (hr : ∀ j (h1 : j < items.size) (h2 : j < items2.size), e j = false → SeqAt.RcLt A.in1 s items[j] items2[j] (r j))
    (h : Q (.bool (SeqAt.firstLt e r (decide (items.size < items2.size)) (List.range (min items.size items2.size)))) s) : wpAny (model prog w) A (call (.builtin "tuple.__lt__") [.ref l, .ref b]) Q E s := by
  obtain ⟨⟨cls, dd, data, sl⟩, ho, hc, n, hd⟩ := id hl
  obtain ⟨⟨cls2, dd2, data2, sl2⟩, ho2, hc2, n2, hd2⟩ := id hb
  simp only at hc hd hc2 hd2
  subst hc hd hc2 hd2
  exact call_meets F.slot_tuple_lt ⟨_, ho, rfl⟩ F.entry_tuple_lt (F.args_tuple_lt_2 _ _) (SeqAt.tuple_ltAt l b items items2 n n2 dd dd2 sl sl2 e r) ⟨ho, ho2, he, hr, h⟩
theorem oneLt_tuple {xs ys : List PyData} {a b : Value} {as bs : List Addr} {Q : Bool → Shared → Prop} (ra : Reads s.heap a (.tuple xs) as) (rb : Reads s.heap b (.tuple ys) bs) (h : alike (.tuple xs) (.tuple ys) = true)
    (hu : A.units + min (PyData.tuple xs).depth (PyData.tuple ys).depth < cLine) (hq : Q (dataLt (.tuple xs) (.tuple ys)) s) : wpAny (model prog w) A (oneLt' true a b) Q E s := by
  have hal : alikeAll xs ys = true := by simpa [alike] using h
  cases ra with
  | @tuple l o vs n _ as₁ h1 h2 h3 h4 =>
    cases rb with
    | @tuple l' o' vs' n' _ bs₁ k1 k2 k3 k4 =>
      have n1 : vs.size = xs.length := by simpa using SeqAt.ReadsAll.length _ _ _ h4
      have n2 : vs'.size = ys.length := by simpa using SeqAt.ReadsAll.length _ _ _ k4
      rw [dataLt_tuple, ← firstLt_toks xs ys hal, ← n1, ← n2] at hq
      rw [oneLt'_eq]
      simp only [if_true]
      refine wpAny_bind (wpAny_cRoomFor (SeqAt.room_here hu) ?_)
      refine wpAny_bind (wpAny_callSpecialIfBound?_slot (T := "tuple") ⟨_, h1, h2⟩ F.slot_tuple_lt (call_tuple_lt (e := SeqAt.pairEq xs ys) (r := fun j => dataLt (xs.getD j .none) (ys.getD j .none)) ⟨_, h1, h2, _, h3⟩ ⟨_, k1, k2, _, k3⟩ (fun j j1 j2 => ?_) (fun j j1 j2 hj => ?_) ?_))
      · have := eqAt_alikeAll xs ys A.in1 s vs.toList vs'.toList _ _ h4 k4 hal (SeqAt.room_in hu) j (by simpa using j1) (by simpa using j2)
        simpa using this
      · have := rcLt_alikeAll xs ys A.in1 s vs.toList vs'.toList _ _ h4 k4 hal (SeqAt.room_in hu) j (by simpa using j1) (by simpa using j2) hj
        simpa using this
      · exact wpAny_truthy_bool hq
/-- the first items, where there are some -/
def KFst (h : Heap) (v : Value) (f : Option Value) : Prop := ∃ a o xs n, v = .ref a ∧ h.get? a = some o ∧ o.cls = .type "tuple" ∧ o.data = .seq xs n ∧ xs[0]? = f
theorem firstsO {M : Model} : ∀ (vs : List Value) (fs : List (Option Value)) {Q : List (Option Value) → Shared → Prop}, EachIs (KFst s.heap) vs fs → Q fs s → wpAny M A (vs.mapM firstOfTuple') Q E s
  | [], _, _, t, h => by cases t; rw [List.mapM_nil]; exact wpAny_pure h
  | v :: vs, _, Q, t, h => by
    cases t with
    | @cons _ f _ fs t1 t =>
    obtain ⟨a, o, xs, n, rfl, ho, hc, hd, hf⟩ := t1
    rw [List.mapM_cons]
    refine wpAny_bind ?_
    rw [kas_first_eq]
    refine wpAny_bind (Looks.here (show Looks M s.heap (typeOf (.ref a)) o.cls from (Looks.ld ho).andThen .now) ?_)
    rw [hc, if_neg (by first | decide | simp)]
    refine wpAny_bind (listItems_at ho hd (wpAny_pure ?_))
    rw [hf]
    exact wpAny_bind (firstsO vs fs (Q := fun bs s' => wpAny M A (pure (f :: bs)) Q E s') t (wpAny_pure h))
theorem each_firsts {h : Heap} : ∀ {vs : List Value} {ds : List PyData}, EachIs (fun v d => ∃ as, Reads h v d as) vs ds → (∀ d, d ∈ ds → ∃ xs, d = .tuple xs) → ∃ fs, EachIs (KFst h) vs fs ∧ ∀ i : Nat, (∃ f, fs[i]? = some (some f)) ↔ ∃ x r, ds[i]? = some (.tuple (x :: r))
  | _, _, .nil, _ => ⟨[], .nil, fun i => by simp⟩
  | _, _, .cons (b := d) ⟨as, r⟩ t, ht => by
    obtain ⟨fs, h1, h2⟩ := each_firsts t fun d hd => ht d (List.mem_cons_of_mem _ hd)
    obtain ⟨xs, rfl⟩ := ht d (List.mem_cons_self ..)
    cases r with
    | @tuple a o vs n _ _ ho hc hd hr =>
      refine ⟨vs[0]? :: fs, .cons ⟨a, o, vs, n, rfl, ho, hc, hd, rfl⟩ h1, fun i => ?_⟩
      cases i with
      | succ i => simpa using h2 i
      | zero =>
        have n1 : vs.size = xs.length := by simpa using SeqAt.ReadsAll.length _ _ _ hr
        cases xs with
        | nil =>
          have z : vs.size = 0 := n1
          have : vs[0]? = none := by rw [Array.getElem?_eq_none_iff]; omega
          simp [this]
        | cons x r =>
          have hlt : 0 < vs.size := by rw [n1]; exact Nat.succ_pos _
          have : vs[0]? = some vs[0] := Array.getElem?_eq_getElem hlt
          simp [this]
end
end Av

/-! sorted(..) of lists, any data -/
namespace Av
open PySem L2
section
open PySem.W PySem.Calls PyProof.Rows
variable {prog : Program} {w : World} {A : Around} {E : Value → Shared → Prop} {s : Shared}
theorem EachIs.right {α β : Type} {R : α → β → Prop} : ∀ {as : List α} {bs : List β}, EachIs R as bs → ∀ b, b ∈ bs → ∃ a, a ∈ as ∧ R a b
  | _, _, .nil => fun b hb => nomatch hb
  | _, _, .cons h t => fun b hb => by
    rcases List.mem_cons.mp hb with rfl | hb
    · exact ⟨_, List.mem_cons_self .., h⟩
    · obtain ⟨a, h1, h2⟩ := EachIs.right t b hb
      exact ⟨a, List.mem_cons_of_mem _ h1, h2⟩
theorem sortsAt_tups {vs : List Value} {ds : List PyData} (e : EachIs (fun v d => ∃ as, Reads s.heap v d as) vs ds) (hal : AllAlike ds) (ht : ∀ d, d ∈ ds → ∃ xs, d = .tuple xs) (hn : PyData.tuple [] ∈ ds) (hu : ∀ d, d ∈ ds → A.units + d.depth < cLine) : SortsAt prog w A s (dataKind s.heap ds) vs := by
  have room : ∀ {d d' : PyData}, d ∈ ds → A.units + min d.depth d'.depth < cLine := fun {d d'} hd => Nat.lt_of_le_of_lt (Nat.add_le_add_left (Nat.min_le_left _ _) _) (hu d hd)
  refine ⟨fun v hv => ?_, ?_⟩
  · obtain ⟨d, hd, as, r⟩ := e.left v hv
    exact ⟨_, dataKind_some hal hd r⟩
  obtain ⟨fs, f1, f2⟩ := each_firsts e ht
  have hnall : ¬ (fs.toArray.all fun x => x.isSome) = true := by
    intro h
    obtain ⟨i, hi⟩ := List.getElem?_of_mem hn
    have hil : i < ds.length := (List.getElem?_eq_some_iff.mp hi).1
    have hfl : i < fs.length := by rw [← f1.length, e.length]; exact hil
    rw [List.all_toArray, List.all_eq_true] at h
    have q := h _ (List.getElem_mem hfl)
    obtain ⟨f, hf⟩ := Option.isSome_iff_exists.mp q
    obtain ⟨x, r, hx⟩ := (f2 i).mp ⟨f, by rw [List.getElem?_eq_getElem hfl, hf]⟩
    rw [hi] at hx
    cases hx
  have hkind : ∀ (E : Value → Shared → Prop) {Q : SortKind → Shared → Prop}, 2 ≤ vs.length → Q (if (fs.toArray[0]?.bind id).isSome then general' else oneType') s → wpAny (model prog w) A (keyKind' vs.toArray) Q E s := by
    intro E Q h2 hq
    rw [kat_kind_eq, List.mapM_toArray, map_eq_pure_bind]
    refine wpAny_bind (wpAny_bind (firstsO vs fs f1 (wpAny_pure ?_)))
    rw [if_neg hnall]
    by_cases h0 : (fs.toArray[0]?.bind id).isSome = true
    · rw [if_pos h0] at hq ⊢
      exact wpAny_pure hq
    · rw [if_neg h0] at hq ⊢
      rw [oneTypeOnly'_eq, List.mapM_toArray, map_eq_pure_bind]
      refine wpAny_bind (wpAny_bind (wpAny_bind (kas_mapM (r := Value.type "tuple") _ (fun v hv Q' hq => ?_) (wpAny_pure ?_))))
      · obtain ⟨d, hd, as, r⟩ := e.left v hv
        obtain ⟨xs, rfl⟩ := ht d hd
        exact (looks_reads r).here hq
      · have hall : ((List.map (fun _ => Value.type "tuple") vs).toArray.all fun x => x == Value.type "tuple") = true := by
          simp only [List.all_toArray, List.all_map, List.all_eq_true]
          intro _ _
          exact beq_self_eq_true _
        have h0 : (List.map (fun _ => Value.type "tuple") vs).toArray[0]? = some (Value.type "tuple") := by
          match vs, h2 with
          | [], h2 => simp at h2
          | [_], h2 => simp
          | v₁ :: v₂ :: rest, _ => simp
        rw [h0]
        simp only [hall, if_true]
        exact wpAny_pure (wpAny_pure hq)
  refine ⟨if (fs.toArray[0]?.bind id).isSome then general' else oneType', ?_, fun h2 E Q hq => hkind E h2 hq⟩
  intro E x y a b Q ha hb hq
  obtain ⟨d, as, hd, ra, rfl⟩ := dataKind_inv ha
  obtain ⟨d', as', hd', rb, rfl⟩ := dataKind_inv hb
  obtain ⟨xs, rfl⟩ := ht d hd
  obtain ⟨ys, rfl⟩ := ht d' hd'
  by_cases h0 : (fs.toArray[0]?.bind id).isSome = true
  · rw [if_pos h0]
    exact oneLt_alike (f := false) (fun z => nomatch z) ra rb (hal _ hd _ hd') (fun z => nomatch z) (room hd) hq
  · rw [if_neg h0, keyLt'_oneType]
    exact oneLt_tuple ra rb (hal _ hd _ hd') (room hd) hq
/-- what sorted(..) takes: all tuples, or none is a tuple or None; alike -/
def SortOk (ds : List PyData) : Prop := AllAlike ds ∧ ((∀ d, d ∈ ds → ∃ xs, d = .tuple xs) ∨ ∀ d, d ∈ ds → d ≠ .none ∧ ∀ xs, d ≠ .tuple xs)
theorem sortsAt_any {vs : List Value} {ds : List PyData} (e : EachIs (fun v d => ∃ as, Reads s.heap v d as) vs ds) (hk : SortOk ds) (hu : ∀ d, d ∈ ds → A.units + d.depth < cLine) : SortsAt prog w A s (dataKind s.heap ds) vs := by
  rcases hk.2 with ht | hn
  · by_cases hn : PyData.tuple [] ∈ ds
    · exact sortsAt_tups e hk.1 ht hn hu
    · refine SortsAt.data e hk.1 (.inl fun d hd => ?_) hu
      obtain ⟨xs, rfl⟩ := ht d hd
      cases xs with
      | nil => exact absurd hd hn
      | cons x r => exact ⟨x, r, rfl⟩
  · exact SortsAt.data e hk.1 (.inr hn) hu
theorem sorted_any {β : Type} {vs : List Value} {bs : List β} {enc : β → PyData} {R : Value → β → Prop} {l : Addr} {Q : Value → Shared → Prop} (hl : s.heap.IsList l vs.toArray) (e : EachIs R vs bs) (er : EachIs (fun v b => ∃ as, Reads s.heap v (enc b) as) vs bs) (hk : SortOk (bs.map enc)) (hL : bs.length ≤ sizeLine)
    (hu : ∀ b, b ∈ bs → A.units + 2 + (enc b).depth < cLine) (h : ∀ out, out.length = bs.length → EachIs R out (bs.mergeSort (dataLe false enc)) → Q (.ref (s.heap.objs.size + 1)) { s with heap := sortedAll s.heap vs (List.toArray out) }) :
    wpAny (model prog w) A (call (.builtin "sorted") [.ref l]) Q E s := by
  have er' : EachIs (fun v b => ∃ as, Reads (sortingHeap (copyHeap s.heap vs) (s.heap.objs.size + 1) vs) v (enc b) as) vs bs := er.mono fun _ _ ⟨as, r⟩ => ⟨as, PyProof.Rows.Reads.keeps (fun _ _ => sorting_copy_old) r⟩
  exact sorted_vals hl (sortsAt_any (s := { s with heap := sortingHeap (copyHeap s.heap vs) (s.heap.objs.size + 1) vs }) (each_map (R := fun v d => ∃ as, Reads (sortingHeap (copyHeap s.heap vs) (s.heap.objs.size + 1) vs) v d as) enc er') hk (bound_map hu)) (by rw [e.length]; exact hL)
    (h _ (by rw [sortVals_length false rfl]; exact e.length) (sortVals_data false e er' hk.1))
theorem each_flip {α β : Type} {R : α → β → Prop} : ∀ {as : List α} {bs : List β}, EachIs R as bs → Paired (fun b a => R a b) bs as
  | _, _, .nil => .nil
  | _, _, .cons h t => .cons h (each_flip t)
theorem flip_each {α β : Type} {R : β → α → Prop} : ∀ {bs : List β} {as : List α}, Paired R bs as → EachIs (fun a b => R b a) as bs
  | _, _, .nil => .nil
  | _, _, .cons h t => .cons h (flip_each t)
theorem paired_map {α β γ : Type} {R : β → α → Prop} (f : γ → β) : ∀ {cs : List γ} {as : List α}, Paired (fun c a => R (f c) a) cs as → Paired R (cs.map f) as
  | _, _, .nil => .nil
  | _, _, .cons h t => .cons h (paired_map f t)
theorem map_paired {α β γ : Type} {R : β → α → Prop} (f : γ → β) : ∀ {cs : List γ} {as : List α}, Paired R (cs.map f) as → Paired (fun c a => R (f c) a) cs as
  | [], _, h => by cases h; exact .nil
  | c :: cs, _, h => by cases h with | cons h t => exact .cons h (map_paired f t)
/-- sorted(xs), any data -/
def rSortD (K : PySem.W.Frag) : List V → Hp → VK → Prop := fun xs H Q => ∃ (a : Addr) (zs : List (PyData × V)), xs = [.ref a] ∧ SqL K H a (zs.map Prod.snd) ∧ (∀ z, z ∈ zs → Dp K H z.2 z.1 ∧ z.1.depth ≤ 60) ∧ SortOk (zs.map Prod.fst) ∧
  ∀ p, H p = none → Q (.ref p) (upd H p (.lst ((zs.mergeSort (dataLe false Prod.fst)).map Prod.snd)))
theorem cr_sortD {X : Cx} (hu : X.A.units + 64 < cLine) : CallR X (.builtin "sorted") (rSortD X.K) := by
  intro pins s σ H vs us Q I r h
  obtain ⟨a, zs, rfl, hs, hd, hk, q⟩ := h
  obtain ⟨its, rv, hl, hz⟩ := I.list hs
  rw [Vals.ref1 r]
  have e0 : EachIs (fun u (z : PyData × V) => RelV z.2 u) its zs := flip_each (map_paired (R := RelV) (fun z : PyData × V => z.2) rv)
  have er : EachIs (fun u (z : PyData × V) => ∃ as, Reads s.heap u z.1 as) its zs := (each_mem e0).mono fun u z ⟨h1, h2⟩ => Dp.reads I z.1 z.2 u (hd z h2).1 h1
  rw [List.length_map] at hz
  refine sorted_any (R := fun u (z : PyData × V) => RelV z.2 u) (enc := Prod.fst) hl.isList e0 er hk hz (fun z hz => by have := (hd z hz).2; omega) fun out ho eo => ?_
  obtain ⟨ep, he'⟩ := PyProof.Rows.sortedAll_at s.heap its out.toArray
  have hv : Vals ((zs.mergeSort (dataLe false Prod.fst)).map Prod.snd) out := paired_map (R := RelV) (fun z : PyData × V => z.2) (each_flip eo)
  have hlen : ((zs.mergeSort (dataLe false Prod.fst)).map Prod.snd).length ≤ sizeLine := by rw [List.length_map, List.length_mergeSort]; exact hz
  exact ⟨.ref _, upd H (s.heap.objs.size + 1) (.lst ((zs.mergeSort (dataLe false Prod.fst)).map Prod.snd)), I.laid (t' := s.toks) (fun _ _ => PyProof.Rows.sortedAll_old) (Nat.le_succ _) ⟨hlen, out, ep, hv, he'⟩, rfl, q _ (I.hok.fresh (Nat.le_succ _))⟩
end
end Av

/-! sorted(..) by data -/
namespace Av
open PySem L2
mutual
/-- <, as sorting has it, of alike data -/
def D.lt : D → D → Bool
  | .bl a, .bl b => !a && b
  | .int i, .int j => decide (i < j)
  | .str x, .str y => decide (x.cps.toList < y.cps.toList)
  | .lst xs, .lst ys => D.lts xs ys
  | .tup xs, .tup ys => D.lts xs ys
  | _, _ => false
def D.lts : List D → List D → Bool
  | [], [] => false
  | [], _ :: _ => true
  | _ :: _, [] => false
  | x :: xs, y :: ys => if D.eqv x y then D.lts xs ys else D.lt x y
end
mutual
def D.alike : D → D → Bool
  | .non, .non => true
  | .bl _, .bl _ => true
  | .int _, .int _ => true
  | .str _, .str _ => true
  | .lst xs, .lst ys => D.alikes xs ys
  | .tup xs, .tup ys => D.alikes xs ys
  | _, _ => false
def D.alikes : List D → List D → Bool
  | [], _ => true
  | _ :: _, [] => true
  | x :: xs, y :: ys => D.alike x y && D.alikes xs ys
end
open PySem.W in
mutual
theorem alike_toP : ∀ (d e : D), D.alike d e = true → PySem.W.alike (toP d) (toP e) = true
  | .non, e, h => by cases e <;> simp [toP, PySem.W.alike, D.alike] at *
  | .bl b, e, h => by cases e <;> simp [toP, PySem.W.alike, D.alike] at *
  | .int b, e, h => by cases e <;> simp [toP, PySem.W.alike, D.alike] at *
  | .str b, e, h => by cases e <;> simp [toP, PySem.W.alike, D.alike] at *
  | .lst xs, e, h => by
    cases e <;> simp [toP, PySem.W.alike, D.alike] at *
    exact alikes_toPs xs _ h
  | .tup xs, e, h => by
    cases e <;> simp [toP, PySem.W.alike, D.alike] at *
    exact alikes_toPs xs _ h
  | .dic b _, e, h => by cases e <;> simp [D.alike] at h
  | .obj b c, e, h => by cases e <;> simp [D.alike] at h
  | .fn b, e, h => by cases e <;> simp [D.alike] at h
theorem alikes_toPs : ∀ (d e : List D), D.alikes d e = true → PySem.W.alikeAll (toPs d) (toPs e) = true
  | [], [], h => by simp [toPs, PySem.W.alikeAll]
  | [], _ :: _, h => by simp [toPs, PySem.W.alikeAll]
  | _ :: _, [], h => by simp [toPs, PySem.W.alikeAll]
  | x :: xs, y :: ys, h => by
    simp only [D.alikes, Bool.and_eq_true] at h
    simp [toPs, PySem.W.alikeAll, alike_toP x y h.1, alikes_toPs xs ys h.2]
end
open PySem.W PySem.SeqAt PyProof.Rows in
mutual
theorem lt_toP : ∀ (d e : D), D.alike d e = true → dataLt (toP d) (toP e) = D.lt d e
  | .non, e, h => by
    cases e <;> simp [D.alike] at h
    show dataLt .none .none = _
    rw [D.lt]
    · exact lex_irrefl _
    all_goals (intros; simp_all)
  | .bl b, e, h => by
    cases e <;> simp [D.alike] at h
    rename_i k
    show dataLt (.bool b) (.bool k) = _
    rw [dataLt_bool, D.lt]
    cases b <;> cases k <;> decide
  | .int b, e, h => by
    cases e <;> simp [D.alike] at h
    rename_i k
    show dataLt (.int b) (.int k) = _
    rw [dataLt_int, D.lt]
  | .str b, e, h => by
    cases e <;> simp [D.alike] at h
    rename_i k
    show dataLt (.str b) (.str k) = _
    rw [dataLt_str, D.lt]
  | .lst xs, e, h => by
    cases e <;> simp [D.alike] at h
    rename_i ys
    show dataLt (.list (toPs xs)) (.list (toPs ys)) = _
    rw [dataLt_list, D.lt]
    exact lts_toPs xs ys h
  | .tup xs, e, h => by
    cases e <;> simp [D.alike] at h
    rename_i ys
    show dataLt (.tuple (toPs xs)) (.tuple (toPs ys)) = _
    rw [dataLt_tuple, D.lt]
    exact lts_toPs xs ys h
  | .dic b _, e, h => by cases e <;> simp [D.alike] at h
  | .obj b c, e, h => by cases e <;> simp [D.alike] at h
  | .fn b, e, h => by cases e <;> simp [D.alike] at h
theorem lts_toPs : ∀ (d e : List D), D.alikes d e = true → PyProof.Rows.lexLt itemOrd (keyToksAll (toPs d)) (keyToksAll (toPs e)) = D.lts d e
  | [], [], h => by
    rw [D.lts]
    exact lex_irrefl _
  | [], y :: ys, h => by
    rw [D.lts]
    show PyProof.Rows.lexLt itemOrd (keyToksAll []) (keyToksAll (toP y :: toPs ys)) = _
    rw [toks_all_cons]
    simp only [keyToksAll]
    rw [lex_diff (O := itemOrd) (by simp)]
    rfl
  | x :: xs, [], h => by
    rw [D.lts]
    show PyProof.Rows.lexLt itemOrd (keyToksAll (toP x :: toPs xs)) (keyToksAll []) = _
    rw [toks_all_cons]
    simp only [keyToksAll]
    rw [lex_diff (O := itemOrd) (by simp)]
    rfl
  | x :: xs, y :: ys, h => by
    simp only [D.alikes, Bool.and_eq_true] at h
    show PyProof.Rows.lexLt itemOrd (keyToksAll (toP x :: toPs xs)) (keyToksAll (toP y :: toPs ys)) = _
    rw [dataLt_cons (alike_toP x y h.1), eqv_toP, lts_toPs xs ys h.2, lt_toP x y h.1, D.lts]
end
/-! insertion sort -/
def ins {α : Type} (le : α → α → Bool) (x : α) : List α → List α
  | [] => [x]
  | y :: ys => if le x y then x :: y :: ys else y :: ins le x ys
def isort {α : Type} (le : α → α → Bool) : List α → List α
  | [] => []
  | x :: xs => ins le x (isort le xs)
section
variable {α β : Type} {le : α → α → Bool}
theorem ins_mem {x z : α} : ∀ {l : List α}, z ∈ ins le x l ↔ z = x ∨ z ∈ l
  | [] => by simp [ins]
  | y :: ys => by
    unfold ins
    split
    · simp
    · simp only [List.mem_cons, ins_mem (l := ys)]
      constructor
      · rintro (h | h | h) <;> simp [h]
      · rintro (h | h | h) <;> simp [h]
theorem isort_mem {z : α} : ∀ {l : List α}, z ∈ isort le l ↔ z ∈ l
  | [] => by simp [isort]
  | y :: ys => by
    unfold isort
    rw [ins_mem, isort_mem, List.mem_cons]
theorem ins_length {x : α} : ∀ {l : List α}, (ins le x l).length = l.length + 1
  | [] => rfl
  | y :: ys => by
    unfold ins
    split
    · rfl
    · simp [ins_length (l := ys)]
theorem isort_length : ∀ {l : List α}, (isort le l).length = l.length
  | [] => rfl
  | y :: ys => by
    unfold isort
    rw [ins_length, isort_length]
    rfl
theorem ins_pairwise (h : PySem.W.TotalLe le) {x : α} : ∀ {l : List α}, l.Pairwise (fun a b => le a b = true) → (ins le x l).Pairwise (fun a b => le a b = true)
  | [], _ => by simp [ins]
  | y :: ys, p => by
    unfold ins
    obtain ⟨p1, p2⟩ := List.pairwise_cons.mp p
    split
    · rename_i hxy
      refine List.pairwise_cons.mpr ⟨fun z hz => ?_, p⟩
      rcases List.mem_cons.mp hz with rfl | hz
      · exact hxy
      · exact h.trans _ _ _ hxy (p1 z hz)
    · rename_i hxy
      refine List.pairwise_cons.mpr ⟨fun z hz => ?_, ins_pairwise h p2⟩
      rcases ins_mem.mp hz with rfl | hz
      · exact (h.total z y).resolve_left hxy
      · exact p1 z hz
theorem ins_filter (h : PySem.W.TotalLe le) {x c : α} : ∀ {l : List α}, l.Pairwise (fun a b => le a b = true) → (ins le x l).filter (PySem.W.sameRank le c) = (x :: l).filter (PySem.W.sameRank le c)
  | [], _ => rfl
  | y :: ys, p => by
    unfold ins
    obtain ⟨p1, p2⟩ := List.pairwise_cons.mp p
    split
    · rfl
    · rename_i hxy
      rw [List.filter_cons, ins_filter h p2, List.filter_cons (x := x), List.filter_cons (x := x), List.filter_cons (x := y)]
      by_cases hx : PySem.W.sameRank le c x = true
      · have hy : ¬ PySem.W.sameRank le c y = true := by
          intro hy
          unfold PySem.W.sameRank at hx hy
          rw [Bool.and_eq_true] at hx hy
          exact hxy (h.trans _ _ _ hx.2 hy.1)
        rw [if_neg hy, if_neg hy]
      · rw [if_neg hx, if_neg hx]
theorem isort_pairwise (h : PySem.W.TotalLe le) : ∀ {l : List α}, (isort le l).Pairwise (fun a b => le a b = true)
  | [] => List.Pairwise.nil
  | x :: xs => ins_pairwise h (isort_pairwise h)
theorem isort_filter (h : PySem.W.TotalLe le) {c : α} : ∀ {l : List α}, (isort le l).filter (PySem.W.sameRank le c) = l.filter (PySem.W.sameRank le c)
  | [] => rfl
  | x :: xs => by
    unfold isort
    rw [ins_filter h (isort_pairwise h), List.filter_cons, isort_filter h, List.filter_cons]
theorem isort_merge (h : PySem.W.TotalLe le) {l : List α} : isort le l = l.mergeSort le := PySem.W.sort_unique h (isort_pairwise h) fun c => isort_filter h
theorem ins_map {le' : β → β → Bool} (f : α → β) {x : α} : ∀ {l : List α}, (∀ y ∈ l, le x y = le' (f x) (f y)) → (ins le x l).map f = ins le' (f x) (l.map f)
  | [], _ => rfl
  | y :: ys, h => by
    unfold ins
    rw [h y (List.mem_cons_self ..), List.map_cons]
    show _ = if le' (f x) (f y) = true then _ else _
    split
    · rfl
    · rw [List.map_cons, ins_map f fun z hz => h z (List.mem_cons_of_mem _ hz)]
theorem isort_map {le' : β → β → Bool} (f : α → β) : ∀ {l : List α}, (∀ x ∈ l, ∀ y ∈ l, le x y = le' (f x) (f y)) → (isort le l).map f = isort le' (l.map f)
  | [], _ => rfl
  | x :: xs, h => by
    unfold isort
    rw [ins_map (le' := le') f fun y hy => h x (List.mem_cons_self ..) y (List.mem_cons_of_mem _ (isort_mem.mp hy)), isort_map f fun x' hx y hy => h x' (List.mem_cons_of_mem _ hx) y (List.mem_cons_of_mem _ hy)]
    rfl
end
def D.le (a b : D) : Bool := !D.lt b a
def sortD (ds : List D) : List D := isort D.le ds
def D.tup? : D → Bool
  | .tup _ => true
  | _ => false
def D.plain? : D → Bool
  | .non => false
  | .tup _ => false
  | _ => true
/-- what sorted(..) takes -/
def sortOk (ds : List D) : Bool := D.okNs 60 ds && D.imms ds && (ds.all D.tup? || ds.all D.plain?) && ds.all fun d => ds.all fun e => D.alike d e
theorem toPs_map : ∀ ds : List D, toPs ds = ds.map toP
  | [] => rfl
  | d :: ds => by rw [toPs, toPs_map ds]; rfl
theorem okNs_mem : ∀ {ds : List D} {n : Nat} {d : D}, D.okNs n ds = true → d ∈ ds → d.okN n = true
  | [], n, d, _, h => nomatch h
  | x :: xs, n, d, h, hd => by
    simp only [D.okNs, Bool.and_eq_true] at h
    rcases List.mem_cons.mp hd with rfl | hd
    · exact h.1
    · exact okNs_mem h.2 hd
theorem imms_memE : ∀ {ds : List D} {d : D}, D.imms ds = true → d ∈ ds → d.imm = true
  | [], d, _, h => nomatch h
  | x :: xs, d, h, hd => by
    simp only [D.imms, Bool.and_eq_true] at h
    rcases List.mem_cons.mp hd with rfl | hd
    · exact h.1
    · exact imms_memE h.2 hd
theorem zip_mem {ds : List D} {vs : List V} {W : Wd} {H : Hp} (r : RepL W H ds vs) {z : D × V} (h : z ∈ ds.zip vs) : z.1 ∈ ds ∧ Rep W H z.1 z.2 := by
  obtain ⟨i, hi⟩ := List.getElem?_of_mem h
  rw [List.getElem?_zip_eq_some] at hi
  exact ⟨List.mem_of_getElem? hi.1, r.r i _ _ hi.1 hi.2⟩
def gSorted : List D → Option RV
  | [.lst ds] => if sortOk ds then some (.fresh (.lst (sortD ds))) else none
  | _ => none
section
variable {fx : Fx} {X : Cx}
theorem sort_data {ds : List D} {vs : List V} {W : Wd} {H : Hp} (r : RepL W H ds vs) (hk : sortOk ds = true) : ∃ zs : List (PyData × V), zs.map Prod.snd = vs ∧ (∀ z, z ∈ zs → Dp W.K H z.2 z.1 ∧ z.1.depth ≤ 60) ∧ SortOk (zs.map Prod.fst) ∧
    ∀ F, RepL W F ds vs → RepL W F (sortD ds) ((zs.mergeSort (PySem.W.dataLe false Prod.fst)).map Prod.snd) := by
  unfold sortOk at hk
  simp only [Bool.and_eq_true] at hk
  obtain ⟨⟨⟨k1, k2⟩, k3⟩, k4⟩ := hk
  rw [List.all_eq_true] at k4
  have al : ∀ d, d ∈ ds → ∀ e, e ∈ ds → D.alike d e = true := fun d hd e he => (List.all_eq_true.mp (k4 d hd)) e he
  have hsnd : ((ds.zip vs).map fun z : D × V => (toP z.1, z.2)).map Prod.snd = vs := by
    rw [List.map_map]
    show (ds.zip vs).map Prod.snd = vs
    exact List.map_snd_zip (by rw [r.n]; exact Nat.le_refl _)
  have hfst : ((ds.zip vs).map fun z : D × V => (toP z.1, z.2)).map Prod.fst = ds.map toP := by
    rw [List.map_map]
    show (ds.zip vs).map (fun z => toP z.1) = _
    have := List.map_fst_zip (l₁ := ds) (l₂ := vs) (by rw [r.n]; exact Nat.le_refl _)
    conv => rhs; rw [← this]
    rw [List.map_map]; rfl
  refine ⟨(ds.zip vs).map fun z => (toP z.1, z.2), hsnd, fun z hz => ?_, ?_, fun F rF => ?_⟩
  · obtain ⟨y, hy, rfl⟩ := List.mem_map.mp hz
    obtain ⟨h1, h2⟩ := zip_mem r hy
    exact ⟨h2.dp _ _ _ (okNs_mem k1 h1), (okN_can y.1 60 (okNs_mem k1 h1)).2⟩
  · rw [hfst]
    refine ⟨fun d hd d' hd' => ?_, ?_⟩
    · obtain ⟨y, hy, rfl⟩ := List.mem_map.mp hd
      obtain ⟨y', hy', rfl⟩ := List.mem_map.mp hd'
      exact alike_toP _ _ (al y hy y' hy')
    · rcases (Bool.or_eq_true _ _).mp k3 with t | t
      · refine .inl fun d hd => ?_
        obtain ⟨y, hy, rfl⟩ := List.mem_map.mp hd
        have := List.all_eq_true.mp t y hy
        cases y <;> first | exact ⟨_, rfl⟩ | (cases this; done)
      · refine .inr fun d hd => ?_
        obtain ⟨y, hy, rfl⟩ := List.mem_map.mp hd
        have := List.all_eq_true.mp t y hy
        cases y <;> first | (cases this; done) | exact ⟨fun z => (by cases z), fun xs z => (by cases z)⟩
  · have hm : ((ds.zip vs).map fun z : D × V => (toP z.1, z.2)).mergeSort (PySem.W.dataLe false Prod.fst) = (isort (fun a b : D × V => D.le a.1 b.1) (ds.zip vs)).map fun z : D × V => (toP z.1, z.2) := by
      rw [← isort_merge (le := PySem.W.dataLe false Prod.fst) (PySem.W.sortLe_total _ _ _), ← isort_map (le' := PySem.W.dataLe false Prod.fst) (fun z : D × V => (toP z.1, z.2)) fun x hx y hy => ?_]
      show (!D.lt y.1 x.1) = !PySem.W.dataLt (toP y.1) (toP x.1)
      rw [lt_toP _ _ (al _ (zip_mem r hy).1 _ (zip_mem r hx).1)]
    have hd : sortD ds = (isort (fun a b : D × V => D.le a.1 b.1) (ds.zip vs)).map Prod.fst := by
      rw [isort_map (le' := D.le) Prod.fst fun x _ y _ => rfl, List.map_fst_zip (by rw [r.n]; exact Nat.le_refl _)]
      rfl
    rw [hm, hd, List.map_map]
    refine ⟨by rw [List.length_map, List.length_map], fun i d v h1 h2 => ?_⟩
    rw [List.getElem?_map] at h1 h2
    cases e : (isort (fun a b : D × V => D.le a.1 b.1) (ds.zip vs))[i]? with
    | none => rw [e] at h1; cases h1
    | some z =>
      rw [e] at h1 h2
      cases h1
      cases h2
      exact (zip_mem rF (isort_mem.mp (List.mem_of_getElem? e))).2
theorem cs_sorted (hu : X.A.units + 64 < cLine) : CallS fx X (.builtin "sorted") gSorted := by
  refine ⟨_, cr_sortD hu, fun F G H sd σ ds vs rv Q S r h k => ?_⟩
  unfold gSorted at h
  split at h
  · split at h
    · rename_i ds hk
      cases h
      obtain ⟨v, rfl, q⟩ := r.one_inv
      obtain ⟨p, us, rfl, h1, h2⟩ := q.lst_inv
      obtain ⟨zs, e, z1, z2, z3⟩ := sort_data h2 hk
      have hi : D.imms ds = true := by
        unfold sortOk at hk
        simp only [Bool.and_eq_true] at hk
        exact hk.1.1.2
      refine ⟨p, zs, rfl, by rw [e]; exact h1, z1, z2, fun l hl => out_newLst S k (z3 F (RepL.immF S hi h2)) hl⟩
    · cases h
  · cases h
end
end Av

/-! sorted(set(..)) of a tuple of ints -/
namespace Av
open PySem L2
def uins (x : Int) : List Int → List Int
  | [] => [x]
  | y :: ys => if x < y then x :: y :: ys else if x = y then y :: ys else y :: uins x ys
def usort : List Int → List Int
  | [] => []
  | x :: xs => uins x (usort xs)
theorem uins_mem {x z : Int} : ∀ {l : List Int}, z ∈ uins x l ↔ z = x ∨ z ∈ l
  | [] => by simp [uins]
  | y :: ys => by
    unfold uins
    split
    · simp
    · split
      · rename_i h; subst h; simp
      · simp only [List.mem_cons, uins_mem (l := ys)]
        constructor
        · rintro (h | h | h) <;> simp [h]
        · rintro (h | h | h) <;> simp [h]
theorem usort_mem {z : Int} : ∀ {l : List Int}, z ∈ usort l ↔ z ∈ l
  | [] => by simp [usort]
  | y :: ys => by
    unfold usort
    rw [uins_mem, usort_mem, List.mem_cons]
theorem uins_pairwise {x : Int} : ∀ {l : List Int}, l.Pairwise (· < ·) → (uins x l).Pairwise (· < ·)
  | [], _ => by simp [uins]
  | y :: ys, p => by
    unfold uins
    obtain ⟨p1, p2⟩ := List.pairwise_cons.mp p
    split
    · rename_i hxy
      refine List.pairwise_cons.mpr ⟨fun z hz => ?_, p⟩
      rcases List.mem_cons.mp hz with rfl | hz
      · exact hxy
      · have := p1 z hz; omega
    · split
      · exact p
      · refine List.pairwise_cons.mpr ⟨fun z hz => ?_, uins_pairwise p2⟩
        rcases uins_mem.mp hz with rfl | hz
        · omega
        · exact p1 z hz
theorem usort_pairwise : ∀ {l : List Int}, (usort l).Pairwise (· < ·)
  | [] => List.Pairwise.nil
  | x :: xs => uins_pairwise usort_pairwise
theorem strict_unique : ∀ {l m : List Int}, l.Pairwise (· < ·) → m.Pairwise (· < ·) → (∀ k, k ∈ l ↔ k ∈ m) → l = m
  | [], [], _, _, _ => rfl
  | [], y :: ys, _, _, h => by have := (h y).mpr (List.mem_cons_self ..); simp at this
  | x :: xs, [], _, _, h => by have := (h x).mp (List.mem_cons_self ..); simp at this
  | x :: xs, y :: ys, p, q, h => by
    obtain ⟨p1, p2⟩ := List.pairwise_cons.mp p
    obtain ⟨q1, q2⟩ := List.pairwise_cons.mp q
    have hxy : x = y := by
      have a := (h x).mp (List.mem_cons_self ..)
      have b := (h y).mpr (List.mem_cons_self ..)
      rcases List.mem_cons.mp a with a | a
      · exact a
      · rcases List.mem_cons.mp b with b | b
        · exact b.symm
        · have := p1 y b; have := q1 x a; omega
    subst hxy
    rw [strict_unique p2 q2 fun k => ?_]
    have hk := h k
    simp only [List.mem_cons] at hk
    constructor
    · intro m
      have := p1 k m
      rcases hk.mp (.inr m) with e | e
      · omega
      · exact e
    · intro m
      have := q1 k m
      rcases hk.mpr (.inr m) with e | e
      · omega
      · exact e
def intsOf : List D → Option (List Int)
  | [] => some []
  | .int i :: r => (intsOf r).map (i :: ·)
  | _ => none
theorem intsOf_eq : ∀ {ds : List D} {ns : List Int}, intsOf ds = some ns → ds = ns.map D.int
  | [], ns, h => by cases h; rfl
  | d :: ds, ns, h => by
    cases d <;> try (cases h; done)
    rename_i i
    simp only [intsOf, Option.map_eq_some_iff] at h
    obtain ⟨ms, h1, rfl⟩ := h
    rw [intsOf_eq h1]
    rfl
theorem intsOf_map : ∀ (ns : List Int), intsOf (ns.map D.int) = some ns
  | [] => rfl
  | n :: ns => by
    show (intsOf (ns.map D.int)).map (n :: ·) = _
    rw [intsOf_map ns]
    rfl
section
variable {fx : Fx} {X : Cx} {Wx : WX} {e a b c : Expr} {pos : Pos}
def rSetT (w : World) (K : PySem.W.Frag) : List V → Hp → VK → Prop := fun vs H Q => ∃ (l : Addr) (ns : List Int), vs = [.ref l] ∧ SqT K H l (ns.map V.int) ∧ ns.length < 64 ∧
  ∀ p c, c ≤ ns.length → H p = none → Q (.ref p) (upd H p (SetO w p (fun j => decide (j ∈ ns)) c))
theorem cr_setT (hc : X.calm = true) : CallR X (.type "set") (rSetT X.w X.K) := by
  intro pins s σ H vs us Q I r h
  obtain ⟨l, ns, rfl, hs, h64, q⟩ := h
  obtain ⟨its, rv, hl, hz⟩ := I.tuple hs
  rw [Vals.ref1 r]
  refine call_set_tupI ns (I.ok.hd hc) hl (by simpa using ints_of_vals rv) (by have : scanBound = 4096 := rfl; omega) fun h' tk c hS hc hk => ?_
  exact ⟨.ref _, upd H s.heap.objs.size (SetO X.w s.heap.objs.size (fun j => decide (j ∈ ns)) c), I.laid (t' := tk) hk (Nat.le_refl _) (setO_new hS), rfl, q _ c hc (I.hok.fresh (Nat.le_refl _))⟩
def gSortSet : D → Option RV
  | .tup ds => (intsOf ds).bind fun ns => if ns.length < 64 then some (.fresh (.lst ((usort ns).map D.int))) else none
  | _ => none
def mSortSet (ma : M RV) : M RV := mUn gSortSet ma
theorem se_sortSet {p p2 pos2 : Pos} {ma : M RV} (hc : X.calm = true) (hg : Gl X "sorted") (hm : X.mg "sorted" = none) (hg2 : Gl X "set") (hm2 : X.mg "set" = none) (ha : SE fx X Wx a ma)
    (na2 : starEach [a] X.env = (false, eval a X.env) :: starEach [] X.env := by rfl) (na : starEach [.Call (.Name "set" p2) [a] [] pos2] X.env = (false, eval (.Call (.Name "set" p2) [a] [] pos2) X.env) :: starEach [] X.env := by rfl)
    (hpl : (backTo pos (starEach [] X.env)).any (·.1) = false := by rfl) (hpl2 : (backTo pos2 (starEach [] X.env)).any (·.1) = false := by rfl) :
    SE fx X Wx (.Call (.Name "sorted" p) [.Call (.Name "set" p2) [a] [] pos2] [] pos) (mSortSet ma) := by
  obtain ⟨t, pa, q⟩ := ha.ex
  have pset : PE X (.Call (.Name "set" p2) [a] [] pos2) _ := pe_callTy (cr_setT hc) hg2 hm2 PyProof.Rows.boot_set (pa_cons pa pa_nil na2) (by decide) (by decide) na2 hpl2
  refine ⟨_, pe_callB (cr_sortedSet hc) hg hm (by rfl) (pa_cons pset pa_nil na) (by decide) (by decide) na hpl, fun F G H sd σ Q S h => one q S h fun F1 G1 H1 sd1 ra v e1 e2 S1 r1 h1 => ?_⟩
  obtain ⟨d, k1, h2⟩ := h1.read
  obtain ⟨rv, k2, h3⟩ := h2.get
  have r := r1.read S1 k1
  clear h h1 h2
  cases d <;> try (cases k2; done)
  rename_i ds
  unfold gSortSet at k2
  rw [Option.bind_eq_some_iff] at k2
  obtain ⟨ns, k3, k4⟩ := k2
  split at k4
  · rename_i h64
    cases k4
    have := intsOf_eq k3
    subst this
    obtain ⟨l, vs, rfl, s1, l1⟩ := r.tup_inv
    obtain rfl := l1.ints
    refine ⟨l, ns, rfl, s1, h64, fun p c hcn hp => ?_⟩
    have S2 := S1.newOwn (o := SetO X.w p (fun j => decide (j ∈ ns)) c) hp (fun _ z => by cases z) (fun _ _ z => by cases z)
    refine ⟨p, _, c, rfl, upd_same, by omega, fun ms p2 hm1 hm2 hm3 hp2 => ?_⟩
    have em : ms = usort ns := strict_unique hm1 usort_pairwise fun k => by rw [hm2, usort_mem]; simp
    subst em
    exact out_newLst S2 (fun F' G' H' w => h3 F' G' H' w) (RepL.of_ints _) hp2
  · cases k4
end
end Av

/-! what the printed derivations use; defs that may be called; the end -/
namespace Av
open PySem L2 PySem.Spec PyProof.Rows
section
variable {fx : Fx} {X : Cx} {Wx : WX} {e a b c : Expr} {pos : Pos}
theorem se_v (i : Nat) {x : Str} (hN : X.N[i]? = some x := by rfl) (hv : Vis X.env.scope x := by first | exact Or.inl rfl | exact Or.inr (Or.inl rfl) | exact Or.inr (Or.inr rfl)) (hd : (x == ("__debug__" : Str)) = false := by decide) (hcd : (x == ("__classdict__" : Str)) = false := by decide) : SE fx X Wx (.Name x pos) (mVar i) := se_var i hN hv hd hcd
theorem sg_v (i : Nat) {x : Str} (hN : X.N.Nodup) (hi : X.N[i]? = some x := by rfl) (hx : Loc X.env.scope x := by first | exact Or.inl rfl | exact Or.inr rfl) (hf : X.fn x = true ∨ X.env.scope.names.lookup x = some .local := by first | exact .inl rfl | exact .inr rfl) : SG fx X (.Name x pos) [i] (putSlot i) := sg_name hN hi hx hf
def gNeg : D → Option RV
  | .int i => some (.val (.int (-i)))
  | _ => none
theorem os_neg : OpS1 fx X (unaryOp .USub) gNeg := by
  refine ⟨_, un_neg, fun F G H sd σ x v rv Q S r h k => ?_⟩
  unfold gNeg at h
  split at h
  · cases h
    obtain rfl := r.int_inv
    exact ⟨_, rfl, out_flat S k (.int _)⟩
  · cases h
theorem takesNo : L2N.Takes X (fun _ _ _ _ => False) := fun u s' ⟨a, B, sI, pins, σ, H, cls, d, e, I, nb, up, sky, na, os, ag, w⟩ => w.elim
theorem u64 {k : Nat} {A : Around} (r : Room k A) : A.units + 64 < cLine := by have := r.un; omega
theorem u65 {k : Nat} {A : Around} (r : Room k A) : A.units + 65 < cLine := by have := r.un; omega
/-- a def that may be called -/
structure Can (P : Program) (w : World) (K : PySem.W.Frag) (mg : Str → Option Value) (base : Heap) (k : Nat) (x : Str) (ps : List Str) (sp : Sp) : Prop where
  ex : ∃ f fd, FnOk P w K mg base (L2N.CX P w) k f fd ps sp ∧ mg x = some (.ref f) ∧ PySem.W.keepIn K (.ref f) = true ∧ Binds K fd ps []
/-- a def's text -/
structure Src (K : PySem.W.Frag) (mg : Str → Option Value) (x : Str) (st : Stmt) (ps : List Str) : Prop where
  ex : ∃ f fd, Fun K x x st f fd ∧ mg x = some (.ref f) ∧ Binds K fd ps []
section
variable {P : Program} {w : World} {K : PySem.W.Frag} {mg : Str → Option Value} {base : Heap}
theorem Can.of {x : Str} {st : Stmt} {N ps : List Str} {k : Nat} {ios : List Nat} {body : MS} (F : Src K mg x st ps) (S : FnScope N ps (defScope st))
    (hbody : ∀ (f : Addr) (cdv : Value) (A : Around) (outer : List Env) (s : Shared) (H : Hp) (E : XK) (fx : Fx), Room k (A.deeper (envOfC x (defScope st) s.heap.objs.size f cdv)) →
      SSs fx (cxOf (L2N.CX P w) P w K mg base N x (defScope st) f cdv A outer s H E) (fun c d _ H => E c d H) (defBody st) body) :
    Can P w K mg base (k + 1) x ps (spD ⟨K, mg⟩ ios (mDef ps.length N.length ios body)) := by
  obtain ⟨f, fd, h1, h2, h3⟩ := F.ex
  exact ⟨f, fd, def_ok h1 S (hbody f), h2, h1.kp, h3⟩
theorem Can.no {x : Str} {st : Stmt} {ps : List Str} {k : Nat} {ios : List Nat} (F : Src K mg x st ps) : Can P w K mg base k x ps (spD ⟨K, mg⟩ ios fun _ => .fail) := by
  obtain ⟨f, fd, h1, h2, h3⟩ := F.ex
  exact ⟨f, fd, ⟨fun vs H Q E ⟨_, _, _, _, _, _, _, h⟩ => h.elim, fun A outer s H args us vs Q E _ _ _ _ ⟨_, _, _, _, _, _, _, h⟩ => h.elim⟩, h2, h1.kp, h3⟩
theorem Can.mono {x : Str} {ps : List Str} {j k : Nat} {sp : Sp} (C : Can P w K mg base j x ps sp) (h : j ≤ k) : Can P w K mg base k x ps sp := by
  obtain ⟨f, fd, h1, h2, h3, h4⟩ := C.ex
  exact ⟨f, fd, h1.mono h, h2, h3, h4⟩
end
theorem se_own {k j : Nat} {ps : List Str} {ios : List Nat} {mf : MF} {x : Str} {p : Pos} {es : List Expr} {ma : M (List RV)} (C : Can X.prog X.w X.K X.mg X.base k x ps (spD (wd X) ios mf)) (tk : L2N.Takes X Wx) (hr : Room j X.A) (ha : SA fx X Wx (e :: es) ma) (hkj : k ≤ j := by decide) (hg : Gl X x := by rfl)
    (nd : ios.Nodup := by decide) (hdb : (x == ("__debug__" : Str)) = false := by decide) (he : starEach (e :: es) X.env = (false, eval e X.env) :: starEach es X.env := by rfl) (hpl : (backTo pos (starEach es X.env)).any (·.1) = false := by rfl) :
    SE fx X Wx (.Call (.Name x p) (e :: es) [] pos) (mCall ios mf ma) := by
  have h := C.ex
  exact se_call (Classical.choose_spec (Classical.choose_spec h)).1 tk (hr.mono hkj) hg (Classical.choose_spec (Classical.choose_spec h)).2.1 (Classical.choose_spec (Classical.choose_spec h)).2.2.1 (Classical.choose_spec (Classical.choose_spec h)).2.2.2 ha nd hdb he hpl
end
/-- the law's own promise -/
theorem law_sp {W : Wd} {mf : MF} {H : Hp} {a : Addr} {ns : List Int} {Q : VK} {E : XK} (hS : SqL W.K H a (ns.map V.int)) (h : mf [.sh (.lst (ns.map D.int))] = .ok (.val (.bl true)) []) (hq : ∀ H', Q (.bl true) H') : spD W [] mf [.ref a] H Q E := by
  have rp : Rep W H (.lst (ns.map D.int)) (.ref a) := (RepL.of_ints ns).lst hS
  refine ⟨H, H, [], [.sh (.lst (ns.map D.int))], ⟨⟨Same.refl _, fun a o e => .inl e, Same.refl _, fun a o e => .inl e, Same.refl _, Same.refl _, fun a e => e, fun a xs r => rfl, fun a o hm => by simp at hm⟩, rfl, fun i s e => ?_, fun i j s s' b e1 e2 m1 m2 p1 p2 => ?_, fun b o hm => by simp at hm⟩, fun a o e _ => e, fun i hi => by simp at hi, ?_⟩
  · cases i with
    | zero => cases e; exact ⟨_, rfl, rp⟩
    | succ i => simp at e
  · cases i with
    | zero => cases e1; cases m1
    | succ i => simp at e1
  · rw [h]
    intro v F' G' H' hr rr _
    rw [Rep.bl_inv rr]
    exact hq H'
def spLaw (K : PySem.W.Frag) : Sp := fun vs H Q _ => ∃ (a : Addr) (ns : List Int), vs = [.ref a] ∧ SqL K H a (ns.map V.int) ∧ ns.length ≤ 63 ∧ ∀ H', Q (.bl true) H'
theorem law_imp {A : FuncData → Prop} {B : Heap → Prop} {C : Heap → Prop} {P : Program} {w : World} {K : PySem.W.Frag} {mg : Str → Option Value} {k : Nat} {fa : Addr} {ps : List Str} {mf : MF} {cx : CXT} (hm : ∀ ns : List Int, ns.length ≤ 63 → mf [.sh (.lst (ns.map D.int))] = .ok (.val (.bl true)) [])
    (h : ∃ fd : FuncData, A fd ∧ ∀ base : Heap, B base → C base → FnOk P w K mg base cx k fa fd ps (spD ⟨K, mg⟩ [] mf)) : ∃ fd : FuncData, A fd ∧ ∀ base : Heap, B base → C base → FnOk P w K mg base cx k fa fd ps (spLaw K) := by
  obtain ⟨fd, h1, h2⟩ := h
  refine ⟨fd, h1, fun base b c => (h2 base b c).imp fun vs H Q E ⟨a, ns, e, hS, hl, hq⟩ => ?_⟩
  subst e
  exact law_sp hS (hm ns hl) hq
theorem law_CX {P : Program} {w : World} (H : Hp) (s : Shared) (e : Value) (s' : Shared) (h : L2N.CX P w [] H s (fun _ _ _ => False) e s') : False := by
  obtain ⟨a, B, H', cls, d, _, _, _, _, _, _, _, z⟩ := h
  exact z
end Av

/-! simp equations by constructors: mirrors run on slots that are known -/
namespace Av
open PySem L2
section
variable {α β : Type} {a : α} {sd sd' : List SV} {d e : D} {i j : Nat}
def rdS (s : SV) (i : Nat) (sd : List SV) : R RV := match s with
  | .no => .fail
  | .exn => .fail
  | .sh d => .ok (.val d) sd
  | .bor d => .ok (.bval d) sd
  | .own _ => .ok (.slot i) sd
  | .io _ => .ok (.slot i) sd
@[simp] theorem mVar_eq : mVar i sd = rdS (sd[i]?.getD .no) i sd := rfl
@[simp] theorem rdS_sh : rdS (.sh d) i sd = .ok (.val d) sd := rfl
@[simp] theorem rdS_bor : rdS (.bor d) i sd = .ok (.bval d) sd := rfl
@[simp] theorem rdS_own : rdS (.own d) i sd = .ok (.slot i) sd := rfl
@[simp] theorem rdS_io : rdS (.io d) i sd = .ok (.slot i) sd := rfl
@[simp] theorem rdS_no : rdS .no i sd = .fail := rfl
@[simp] theorem bind_ok {f : α → M β} : (R.ok a sd).bind f = f a sd := rfl
@[simp] theorem bind_exc {f : α → M β} {x : Xn} : (R.exc x sd : R α).bind f = .exc x sd := rfl
@[simp] theorem bind_fail {f : α → M β} : (R.fail : R α).bind f = .fail := rfl
@[simp] theorem mBind_eq {m : M α} {f : α → M β} : mBind m f sd = (m sd).bind f := rfl
@[simp] theorem mPure_eq : mPure a sd = .ok a sd := rfl
@[simp] theorem mFail_eq : (mFail : M α) sd = .fail := rfl
@[simp] theorem mGet_some : mGet (some a) sd = .ok a sd := rfl
@[simp] theorem mGet_none : mGet (none : Option α) sd = .fail := rfl
@[simp] theorem mC_eq : mC d sd = .ok (.val d) sd := rfl
@[simp] theorem keep_val : (RV.val d).keep = .val d := rfl
@[simp] theorem keep_bval : (RV.bval d).keep = .bval d := rfl
@[simp] theorem keep_slot : (RV.slot i).keep = .slot i := rfl
@[simp] theorem keep_fresh : (RV.fresh d).keep = .val d := rfl
@[simp] theorem svd_sh : (SV.sh d).d? = some d := rfl
@[simp] theorem svd_bor : (SV.bor d).d? = some d := rfl
@[simp] theorem svd_own : (SV.own d).d? = some d := rfl
@[simp] theorem svd_io : (SV.io d).d? = some d := rfl
@[simp] theorem mRead_val : mRead (.val d) sd = .ok d sd := rfl
@[simp] theorem mRead_bval : mRead (.bval d) sd = .ok d sd := rfl
@[simp] theorem mRead_fresh : mRead (.fresh d) sd = .ok d sd := rfl
@[simp] theorem mRead_slot : mRead (.slot i) sd = mGet (sd[i]?.getD .no).d? sd := by
  show (match (sd[i]?.getD SV.no).d? with | some d => R.ok d sd | none => R.fail) = _
  generalize (sd[i]?.getD SV.no).d? = o
  cases o <;> rfl
variable {g g' : D → D → Option RV} {ma mb mc : M RV} {ta tb : M Bool}
@[simp] theorem mOp_eq : mOp g ma mb sd = (ma sd).bind fun ra => mBind mb fun rb => mBind (mRead ra.keep) fun x => mBind (mRead rb.keep) fun y => mGet (g x y) := rfl
@[simp] theorem mUn_eq {g : D → Option RV} : mUn g ma sd = (ma sd).bind fun ra => mBind (mRead ra.keep) fun x => mGet (g x) := rfl
@[simp] theorem rvb_bl {b : Bool} : (RV.val (.bl b)).b? = some b := rfl
@[simp] theorem mCmpT_eq : mCmpT g ma mb sd = (mOp g ma mb sd).bind fun r => mGet r.b? := rfl
@[simp] theorem mB_eq : mB ma sd = (ma sd).bind fun r => mGet r.b? := rfl
@[simp] theorem mChain_eq : mChain g g' ma mb mc sd = (ma sd).bind fun ra => mBind mb fun rb => mBind (mRead ra.keep) fun x => mBind (mRead rb.keep) fun y => mBind (mGet (g x y)) fun r => mBind (mGet r.b?) fun k => if k then mBind mc fun rc => mBind (mRead rb.keep) fun y => mBind (mRead rc.keep) fun z => mGet (g' y z) else mPure (.val (.bl false)) := rfl
@[simp] theorem mTruth_eq : mTruth ma sd = (ma sd).bind fun r => mBind (mRead r.keep) fun d => mGet (truthD d) := rfl
@[simp] theorem mAndT_eq : mAndT ta tb sd = (ta sd).bind fun k => if k then tb else mPure false := rfl
@[simp] theorem mOrT_eq : mOrT ta tb sd = (ta sd).bind fun k => if k then mPure true else tb := rfl
@[simp] theorem mNotT_eq : mNotT ta sd = (ta sd).bind fun k => mPure (!k) := rfl
@[simp] theorem mAndV_eq : mAndV ma mb sd = (ma sd).bind fun r => mBind (mGet r.keep.b?) fun k => if k then mb else mPure (.val (.bl false)) := rfl
@[simp] theorem mOrV_eq : mOrV ma mb sd = (ma sd).bind fun r => mBind (mGet r.keep.b?) fun k => if k then mPure (.val (.bl true)) else mb := rfl
@[simp] theorem mNotV_eq : mNotV ma sd = (ma sd).bind fun r => mBind (mGet r.keep.b?) fun k => mPure (.val (.bl (!k))) := rfl
@[simp] theorem mIf_eq : mIf ta ma mb sd = (ta sd).bind fun k => if k then ma else mb := rfl
@[simp] theorem mIsN_eq : mIsN ma sd = (ma sd).bind fun r => mBind (mRead r.keep) fun d => mPure (.val (.bl d.isNon)) := rfl
@[simp] theorem mNotN_eq : mNotN ma sd = (ma sd).bind fun r => mBind (mRead r.keep) fun d => mPure (.val (.bl !d.isNon)) := rfl
@[simp] theorem mNil_eq : mNil sd = .ok [] sd := rfl
variable {ms : M (List RV)} {r : RV} {rs : List RV}
@[simp] theorem mCons_eq : mCons ma ms sd = (ma sd).bind fun r => mBind ms fun rs => mPure (r.keep :: rs) := rfl
@[simp] theorem mReads_nil : mReads [] sd = .ok [] sd := rfl
@[simp] theorem mReads_cons : mReads (r :: rs) sd = (mRead r.keep sd).bind fun d => mBind (mReads rs) fun ds => mPure (d :: ds) := rfl
@[simp] theorem mShare_val : mShare (.val d) sd = .ok d sd := rfl
@[simp] theorem mShare_fresh : mShare (.fresh d) sd = .ok d sd := rfl
@[simp] theorem mShare_bval : mShare (.bval d) sd = if d.imm then .ok d sd else .fail := rfl
def shS (s : SV) (i : Nat) (sd : List SV) : R D := match s with
  | .own d => .ok d (sd.set i (.sh d))
  | .sh d => .ok d sd
  | _ => .fail
@[simp] theorem mShare_slot : mShare (.slot i) sd = shS (sd[i]?.getD .no) i sd := rfl
@[simp] theorem shS_own : shS (.own d) i sd = .ok d (sd.set i (.sh d)) := rfl
@[simp] theorem shS_sh : shS (.sh d) i sd = .ok d sd := rfl
@[simp] theorem mShares_nil : mShares [] sd = .ok [] sd := rfl
@[simp] theorem mShares_cons : mShares (r :: rs) sd = (mShare r sd).bind fun d => mBind (mShares rs) fun ds => mPure (d :: ds) := rfl
@[simp] theorem mTup_eq : mTup ms sd = (ms sd).bind fun rs => mBind (mShares rs) fun ds => if ds.length ≤ sizeLine then mPure (.val (.tup ds)) else mFail := rfl
@[simp] theorem mLst_eq : mLst ms sd = (ms sd).bind fun rs => mBind (mShares rs) fun ds => if ds.length ≤ sizeLine then mPure (.fresh (.lst ds)) else mFail := rfl
@[simp] theorem mCallB_eq {g : List D → Option RV} : mCallB g ms sd = (ms sd).bind fun rs => mBind (mReads rs) fun ds => mGet (g ds) := rfl
@[simp] theorem mIsa_eq {T : String} : mIsa T ma sd = (ma sd).bind fun r => mBind (mRead r.keep) fun d => mBind (mGet (isaD T d)) fun k => mPure (.val (.bl k)) := rfl
@[simp] theorem elem_val : elemOf sd (.val e) d = some (.val d) := rfl
@[simp] theorem elem_fresh : elemOf sd (.fresh e) d = some (.val d) := rfl
@[simp] theorem elem_bval : elemOf sd (.bval e) d = some (if d.imm then .val d else .bval d) := rfl
def elS (s : SV) (d : D) : Option RV := match s with
  | .own _ => some (.val d)
  | .io _ => some (.val d)
  | _ => none
@[simp] theorem elem_slot : elemOf sd (.slot i) d = elS (sd[i]?.getD .no) d := rfl
@[simp] theorem elS_own : elS (.own e) d = some (.val d) := rfl
@[simp] theorem elS_io : elS (.io e) d = some (.val d) := rfl
@[simp] theorem gIx_tup {xs : List D} {k : Int} : gIx sd r (.tup xs) (.int k) = (atI xs k).bind (elemOf sd r) := rfl
@[simp] theorem gIx_lst {xs : List D} {k : Int} : gIx sd r (.lst xs) (.int k) = (atI xs k).bind (elemOf sd r) := rfl
def mIx2 (ra : RV) (x y : D) : M RV := fun sd => mGet (gIx sd ra.keep x y) sd
@[simp] theorem mIx2_tup {xs : List D} {k : Int} : mIx2 r (.tup xs) (.int k) sd = mGet ((atI xs k).bind (elemOf sd r.keep)) sd := rfl
@[simp] theorem mIx2_lst {xs : List D} {k : Int} : mIx2 r (.lst xs) (.int k) sd = mGet ((atI xs k).bind (elemOf sd r.keep)) sd := rfl
@[simp] theorem mIx_eq : mIx ma mb sd = (ma sd).bind fun ra => mBind mb fun rb => mBind (mRead ra.keep) fun x => mBind (mRead rb.keep) fun y => mIx2 ra x y := rfl
@[simp] theorem mNoPart_eq : mNoPart sd = .ok none sd := rfl
@[simp] theorem int?_int {k : Int} : (D.int k).int? = some k := rfl
@[simp] theorem mPart_eq : mPart ma sd = (ma sd).bind fun r => mBind (mRead r.keep) fun d => mBind (mGet d.int?) fun i => mPure (some i) := rfl
@[simp] theorem mSl_eq {ml mh : M (Option Int)} : mSl ma ml mh sd = (ma sd).bind fun ra => mBind ml fun lo => mBind mh fun hi => mBind (mRead ra.keep) fun x => mGet (gSl x lo hi) := rfl
def owS (s : SV) (sd : List SV) : R D := match s with
  | .own d => .ok d sd
  | .io d => .ok d sd
  | _ => .fail
@[simp] theorem mOwn_eq : mOwn i sd = owS (sd[i]?.getD .no) sd := rfl
@[simp] theorem owS_own : owS (.own d) sd = .ok d sd := rfl
@[simp] theorem owS_io : owS (.io d) sd = .ok d sd := rfl
def puS (s : SV) (i : Nat) (d : D) (sd : List SV) : R Unit := match s with
  | .own _ => .ok () (sd.set i (.own d))
  | .io _ => .ok () (sd.set i (.io d))
  | _ => .fail
@[simp] theorem mPutOwn_eq : mPutOwn i d sd = puS (sd[i]?.getD .no) i d sd := rfl
@[simp] theorem puS_own : puS (.own e) i d sd = .ok () (sd.set i (.own d)) := rfl
@[simp] theorem puS_io : puS (.io e) i d sd = .ok () (sd.set i (.io d)) := rfl
@[simp] theorem mMut_eq {kd : D → Bool} {g : D → List D → Option (D × D)} : mMut kd g i ms sd = (mOwn i sd).bind fun x0 => if kd x0 then mBind ms fun rs => mBind (mShares rs) fun ds => mBind (mOwn i) fun x => mBind (mGet (g x ds)) fun y => mBind (mPutOwn i y.1) fun _ => mPure (.val y.2) else mFail := rfl
@[simp] theorem isLst_lst {xs : List D} : D.isLst (.lst xs) = true := rfl
@[simp] theorem gAppend_eq {xs : List D} : gAppend (.lst xs) [d] = if xs.length < sizeLine then some (.lst (xs ++ [d]), .non) else none := rfl
@[simp] theorem gSetL_eq {xs : List D} {k : Int} : gSetL (.lst xs) (.int k) d = (ixN xs.length k).map fun j => .lst (xs.set j d) := rfl
/-! statements -/
def thenR (r : R α) (k : α → MS) : RS := match r with
  | .ok a sd => k a sd
  | .exc x sd => .exc x sd
  | .fail => .fail
@[simp] theorem mThen_eq {m : M α} {k : α → MS} : mThen m k sd = thenR (m sd) k := rfl
@[simp] theorem thenR_ok {k : α → MS} : thenR (.ok a sd) k = k a sd := rfl
@[simp] theorem thenR_exc {k : α → MS} {x : Xn} : thenR (.exc x sd) k = .exc x sd := rfl
@[simp] theorem thenR_fail {k : α → MS} : thenR .fail k = .fail := rfl
def seqR (r : RS) (k : MS) : RS := match r with
  | .nx sd => k sd
  | r => r
variable {m k : MS}
@[simp] theorem mSeq_eq : mSeq m k sd = seqR (m sd) k := rfl
@[simp] theorem seqR_nx : seqR (.nx sd) k = k sd := rfl
@[simp] theorem seqR_ret : seqR (.ret r sd) k = .ret r sd := rfl
@[simp] theorem seqR_bk : seqR (.bk sd) k = .bk sd := rfl
@[simp] theorem seqR_ct : seqR (.ct sd) k = .ct sd := rfl
@[simp] theorem seqR_exc {x : Xn} : seqR (.exc x sd) k = .exc x sd := rfl
@[simp] theorem seqR_fail : seqR .fail k = .fail := rfl
@[simp] theorem mSkip_eq : mSkip sd = .nx sd := rfl
@[simp] theorem mExpr_eq : mExpr ma sd = thenR (ma sd) fun _ => mSkip := rfl
def retK (r : RV) : MS := fun sd => .ret r sd
@[simp] theorem retK_eq : retK r sd = .ret r sd := rfl
@[simp] theorem mRet_eq : mRet ma sd = thenR (ma sd) retK := rfl
@[simp] theorem mRetN_eq : mRetN sd = .ret (.val .non) sd := rfl
@[simp] theorem mBreak_eq : mBreak sd = .bk sd := rfl
@[simp] theorem mCont_eq : mCont sd = .ct sd := rfl
@[simp] theorem mIfS_eq : mIfS ta m k sd = thenR (ta sd) fun t => if t then m else k := rfl
@[simp] theorem iteM {α β : Type} {c : Prop} [Decidable c] {f g : α → β} {x : α} : (if c then f else g) x = if c then f x else g x := by split <;> rfl
def nxO (o : Option (List SV)) : RS := match o with
  | some sd => .nx sd
  | none => .fail
@[simp] theorem nxO_some : nxO (some sd) = .nx sd := rfl
@[simp] theorem nxO_none : nxO none = .fail := rfl
def asgK (g : MG) (r : RV) : MS := fun sd => nxO (g r sd)
@[simp] theorem asgK_eq {g : MG} : asgK g r sd = nxO (g r sd) := rfl
@[simp] theorem mAsg_eq {g : MG} : mAsg g ma sd = thenR (ma sd) (asgK g) := rfl
@[simp] theorem canPut_sh : canPut (some (.sh d)) = true := rfl
@[simp] theorem canPut_no : canPut (some .no) = true := rfl
@[simp] theorem canPut_bor : canPut (some (.bor d)) = true := rfl
@[simp] theorem canPut_own : canPut (some (.own d)) = true := rfl
@[simp] theorem put_val : putSlot i (.val d) sd = if canPut sd[i]? then some (sd.set i (.sh d)) else none := rfl
@[simp] theorem put_bval : putSlot i (.bval d) sd = if canPut sd[i]? then some (sd.set i (if d.imm then .sh d else .bor d)) else none := rfl
@[simp] theorem put_fresh : putSlot i (.fresh d) sd = if canPut sd[i]? then some (sd.set i (.own d)) else none := rfl
def puJ (s : SV) (j i : Nat) (sd : List SV) : Option (List SV) := match s with
  | .own d => some ((sd.set j (.sh d)).set i (.sh d))
  | .sh d => some (sd.set i (.sh d))
  | _ => none
@[simp] theorem put_slot : putSlot i (.slot j) sd = if canPut sd[i]? then puJ (sd[j]?.getD .no) j i sd else none := rfl
@[simp] theorem puJ_own : puJ (.own d) j i sd = some ((sd.set j (.sh d)).set i (.sh d)) := rfl
@[simp] theorem puJ_sh : puJ (.sh d) j i sd = some (sd.set i (.sh d)) := rfl
/-! defs, calls -/
def lvS (s : SV) : Option RV := match s with
  | .own d => some (.fresh d)
  | .sh d => some (.val d)
  | .bor d => if d.imm then some (.val d) else none
  | _ => none
@[simp] theorem leaves_val : leaves sd (.val d) = some (.val d) := rfl
@[simp] theorem leaves_fresh : leaves sd (.fresh d) = some (.fresh d) := rfl
@[simp] theorem leaves_bval : leaves sd (.bval d) = if d.imm then some (.val d) else none := rfl
@[simp] theorem leaves_slot : leaves sd (.slot i) = lvS (sd[i]?.getD .no) := rfl
@[simp] theorem lvS_own : lvS (.own d) = some (.fresh d) := rfl
@[simp] theorem lvS_sh : lvS (.sh d) = some (.val d) := rfl
@[simp] theorem outsOf_nil : outsOf sd [] = some [] := rfl
def outS (s : SV) : Option D := match s with
  | .io d => some d
  | _ => none
@[simp] theorem outsOf_cons {is : List Nat} : outsOf sd (i :: is) = (outS (sd[i]?.getD .no)).bind fun d => (outsOf sd is).map fun ds => d :: ds := rfl
@[simp] theorem outS_io : outS (.io d) = some d := rfl
def finR (r : Option RV) (os : Option (List D)) : FR := match r, os with
  | some r, some os => .ok r os
  | _, _ => .fail
@[simp] theorem finR_some {os : List D} : finR (some r) (some os) = .ok r os := rfl
@[simp] theorem finF_ret {ios : List Nat} : finF ios (.ret r sd) = finR (leaves sd r) (outsOf sd ios) := by
  first
    | (unfold finF finR; dsimp only; done)
    | (unfold finF finR; dsimp only; split <;> simp_all)
@[simp] theorem finF_nx {ios : List Nat} : finF ios (.nx sd) = finR (some (.val .non)) (outsOf sd ios) := by
  first
    | (unfold finF finR; dsimp only; done)
    | (unfold finF finR; dsimp only; cases outsOf sd ios <;> rfl)
@[simp] theorem mDef_eq {np n : Nat} {ios : List Nat} {body : MS} {args : List SV} : mDef np n ios body args = if args.length = np then finF ios (body (args ++ List.replicate (n - np) .no)) else .fail := rfl
@[simp] theorem passAll_nil {ios : List Nat} : passAll sd ios i [] = some [] := rfl
@[simp] theorem passAll_cons {ios : List Nat} : passAll sd ios i (r :: rs) = (passOne sd (ios.contains i) r).bind fun s => (passAll sd ios (i + 1) rs).map fun ss => s :: ss := rfl
@[simp] theorem pass_val : passOne sd false (.val d) = some (.sh d) := rfl
@[simp] theorem pass_fresh : passOne sd false (.fresh d) = some (.sh d) := rfl
@[simp] theorem pass_bval : passOne sd false (.bval d) = some (if d.imm then .sh d else .bor d) := rfl
def paS (s : SV) : Option SV := match s with
  | .own d => some (.bor d)
  | .io d => some (.bor d)
  | .sh d => some (.sh d)
  | .bor d => some (.bor d)
  | .no => none
  | .exn => none
@[simp] theorem pass_slot : passOne sd false (.slot i) = paS (sd[i]?.getD .no) := rfl
@[simp] theorem paS_own : paS (.own d) = some (.bor d) := rfl
@[simp] theorem paS_io : paS (.io d) = some (.bor d) := rfl
def paI (s : SV) : Option SV := match s with
  | .own d => some (.io d)
  | .io d => some (.io d)
  | _ => none
@[simp] theorem pass_io : passOne sd true (.slot i) = paI (sd[i]?.getD .no) := rfl
@[simp] theorem paI_own : paI (.own d) = some (.io d) := rfl
@[simp] theorem paI_io : paI (.io d) = some (.io d) := rfl
@[simp] theorem ioSlots_nil : ioSlots rs [] = some [] := rfl
@[simp] theorem ioSlots_zero : ioSlots (.slot j :: rs) [0] = some [j] := rfl
@[simp] theorem apart_nil : apartOk rs [] [] = true := by
  unfold apartOk
  rw [Bool.and_eq_true]
  refine ⟨by decide, List.all_eq_true.mpr fun i hi => ?_⟩
  cases rs[i]? with
  | none => rfl
  | some r => cases r <;> rfl
/-- an argument that isn't slot j -/
def notJ (j : Nat) : RV → Bool
  | .slot k => !(k == j)
  | _ => true
@[simp] theorem notJ_val : notJ j (.val d) = true := rfl
@[simp] theorem notJ_bval : notJ j (.bval d) = true := rfl
@[simp] theorem notJ_slot : notJ j (.slot i) = !(i == j) := rfl
@[simp] theorem apart_zero : apartOk (.slot j :: rs) [0] [j] = rs.all (notJ j) := by
  unfold apartOk
  rw [show decide [j].Nodup = true from by simp, Bool.true_and, List.length_cons, List.range_succ_eq_map, List.all_cons, List.all_map]
  rw [show ([0] : List Nat).contains 0 = true from rfl, Bool.true_or, Bool.true_and]
  rw [Bool.eq_iff_iff, List.all_eq_true, List.all_eq_true]
  constructor
  · intro h r hr
    obtain ⟨i, hi⟩ := List.getElem?_of_mem hr
    have hl := (List.getElem?_eq_some_iff.mp hi).1
    have := h i (List.mem_range.mpr hl)
    simp only [Function.comp, List.getElem?_cons_succ, hi] at this
    have c0 : ([0] : List Nat).contains (i + 1) = false := by simp
    simp only [Nat.succ_eq_add_one, c0, Bool.false_or, List.getElem?_cons_succ, hi] at this
    cases r <;> simp_all [notJ]
  · intro h i hi
    have hl : i < rs.length := List.mem_range.mp hi
    have := h rs[i] (List.getElem_mem hl)
    have e : rs[i]? = some rs[i] := List.getElem?_eq_getElem hl
    have c0 : ([0] : List Nat).contains (i + 1) = false := by simp
    simp only [Function.comp, Nat.succ_eq_add_one, c0, Bool.false_or, List.getElem?_cons_succ, e]
    cases hr : rs[i] <;> rw [hr] at this <;> simp_all [notJ]
@[simp] theorem wb_nil {n : Nat} : wb [] n sd = sd := by
  induction sd generalizing n with
  | nil => rfl
  | cons s r ih => unfold wb; rw [ih]; rfl
/-- the handed over slot's new content -/
def wbO (s : SV) (d : D) : SV := match s with
  | .own _ => .own d
  | .io _ => .io d
  | s => s
@[simp] theorem wbO_own : wbO (.own e) d = .own d := rfl
@[simp] theorem wbO_io : wbO (.io e) d = .io d := rfl
theorem wb_one' {n : Nat} : ∀ {sd : List SV} {n j : Nat}, n ≤ j → wb [(j, d)] n sd = sd.modify (j - n) fun s => wbO s d
  | [], n, j, h => by simp [wb]
  | s :: r, n, j, h => by
    unfold wb
    by_cases hj : j = n
    · subst hj
      have h2 : ∀ (r : List SV) (m : Nat), j < m → wb [(j, d)] m r = r := by
        intro r
        induction r with
        | nil => intro m _; rfl
        | cons t r ih =>
          intro m hm
          unfold wb updSV
          rw [ih _ (by omega)]
          have : (m == j) = false := by simp; omega
          simp [List.lookup_cons, this]
      rw [h2 r _ (Nat.lt_succ_self _), Nat.sub_self]
      simp [updSV, List.lookup_cons, List.modify]
      cases s <;> rfl
    · rw [wb_one' (n := 0) (by omega : n + 1 ≤ j)]
      have e : (n == j) = false := by simp; omega
      have e2 : j - n = (j - (n + 1)) + 1 := by omega
      rw [e2]
      simp [updSV, List.lookup_cons, e]
@[simp] theorem wb_one : wb [(j, d)] 0 sd = sd.modify j fun s => wbO s d := wb_one' (n := 0) (Nat.zero_le _)
def callK (ios : List Nat) (mf : MF) (rs : List RV) : M RV := fun sd => match passAll sd ios 0 rs, ioSlots rs ios with
  | some svs, some js => if apartOk rs ios js then
      match mf svs with
      | .ok r outs => .ok r (wb (js.zip outs) 0 sd)
      | .exc x outs => .exc x (wb (js.zip outs) 0 sd)
      | .fail => .fail
    else .fail
  | _, _ => .fail
@[simp] theorem mCall_eq {ios : List Nat} {mf : MF} : mCall ios mf ms sd = (ms sd).bind (callK ios mf) := rfl
def callE (f : FR) (js : List Nat) (sd : List SV) : R RV := match f with
  | .ok r outs => .ok r (wb (js.zip outs) 0 sd)
  | .exc x outs => .exc x (wb (js.zip outs) 0 sd)
  | .fail => .fail
@[simp] theorem callE_ok {js : List Nat} {outs : List D} : callE (.ok r outs) js sd = .ok r (wb (js.zip outs) 0 sd) := rfl
@[simp] theorem callE_exc {js : List Nat} {outs : List D} {x : Xn} : callE (.exc x outs) js sd = .exc x (wb (js.zip outs) 0 sd) := rfl
def callM (o : Option (List SV)) (mf : MF) (js : List Nat) (sd : List SV) : R RV := match o with
  | some svs => callE (mf svs) js sd
  | none => .fail
@[simp] theorem callM_some {svs : List SV} {mf : MF} {js : List Nat} : callM (some svs) mf js sd = callE (mf svs) js sd := rfl
@[simp] theorem callK_nil {mf : MF} {rs : List RV} : callK [] mf rs sd = callM (passAll sd [] 0 rs) mf [] sd := by
  unfold callK callM callE
  rw [ioSlots_nil]
  cases passAll sd [] 0 rs with
  | none => rfl
  | some svs => simp
@[simp] theorem callK_zero {mf : MF} {rs : List RV} : callK [0] mf (.slot j :: rs) sd = if rs.all (notJ j) then callM (passAll sd [0] 0 (.slot j :: rs)) mf [j] sd else .fail := by
  unfold callK callM callE
  rw [ioSlots_zero]
  cases passAll sd [0] 0 (.slot j :: rs) with
  | none => simp
  | some svs => rw [← apart_zero]
/-! loops -/
@[simp] theorem mFor_eq {mi : M (List RV)} {g : MG} : mFor mi g m sd = thenR (mi sd) fun items => forGo g m items := rfl
@[simp] theorem mComp_eq {vs : List Nat} {mi : M (List RV)} {g : MG} : mComp vs mi g ta ma sd = (mi sd).bind fun items => compGo vs g ta ma items [] := rfl
@[simp] theorem mRange_eq {g : List D → Option (List RV)} : mRange g ms sd = (ms sd).bind fun rs => mBind (mReads rs) fun ds => mBind (mGet (g ds)) fun is => mPure is := rfl
@[simp] theorem gRange1_eq {k : Int} : gRange1 [.int k] = if rangeOk k then some (rangeItems 0 k.toNat) else none := rfl
@[simp] theorem gRange2_eq {k l : Int} : gRange2 [.int k, .int l] = if rangeOk k && rangeOk l then some (rangeItems k (l - k).toNat) else none := rfl
@[simp] theorem mSeqIt_eq : mSeqIt ma sd = (ma sd).bind fun r => mBind (mSettle r) fun r => mGet (seqItems r) := rfl
@[simp] theorem mTupRg_eq : mTupRg ma sd = (ma sd).bind fun r => mBind (mRead r.keep) fun d => mBind (mGet d.int?) fun n => if 0 ≤ n ∧ n ≤ 1000000 then mPure (.val (.tup (intsD 0 n.toNat))) else mFail := rfl
@[simp] theorem mSortSet_eq : mSortSet ma sd = mUn gSortSet ma sd := rfl
@[simp] theorem mSetIx_eq {kd : D → Bool} {g : D → D → D → Option D} : mSetIx kd g i ma mb sd = thenR ((mb sd).bind fun r => mBind (mShare r) fun d => mBind (mOwn i) fun _ => mBind ma fun r => mBind (mRead r.keep) fun k => mBind (mOwn i) fun x => if kd x then mBind (mGet (g x k d)) fun x' => mPutOwn i x' else mFail) fun _ => mSkip := rfl
/-! operations -/
variable {p q : Int} {xs ys : List D}
@[simp] theorem gAdd_int : gAdd (.int p) (.int q) = some (.val (.int (p + q))) := rfl
@[simp] theorem gAdd_tup : gAdd (.tup xs) (.tup ys) = if xs.length + ys.length ≤ sizeLine && D.imms xs && D.imms ys then some (.val (.tup (xs ++ ys))) else none := rfl
@[simp] theorem gAdd_lst : gAdd (.lst xs) (.lst ys) = if xs.length + ys.length ≤ sizeLine && D.imms xs && D.imms ys then some (.fresh (.lst (xs ++ ys))) else none := rfl
@[simp] theorem gSub_int : gSub (.int p) (.int q) = some (.val (.int (p - q))) := rfl
@[simp] theorem gMul_int : gMul (.int p) (.int q) = if decide (p.natAbs < 18446744073709551616) || decide (q.natAbs < 18446744073709551616) then some (.val (.int (p * q))) else none := rfl
@[simp] theorem gMod_int : gMod (.int p) (.int q) = if decide (0 < q) then some (.val (.int (p % q))) else none := rfl
@[simp] theorem gDiv_int : gDiv (.int p) (.int q) = if decide (0 < q) && decide (q < 1073741824) then some (.val (.int (p / q))) else none := rfl
@[simp] theorem gPow_int : gPow (.int p) (.int q) = if decide (0 ≤ q) && decide (q ≤ 1000) && decide (p.natAbs < 18446744073709551616) then some (.val (.int (p ^ q.toNat))) else none := rfl
@[simp] theorem gNeg_int : gNeg (.int p) = some (.val (.int (-p))) := rfl
@[simp] theorem gLt_int : gLt (.int p) (.int q) = some (.val (.bl (decide (p < q)))) := rfl
@[simp] theorem gLe_int : gLe (.int p) (.int q) = some (.val (.bl (decide (p ≤ q)))) := rfl
@[simp] theorem gGt_int : gGt (.int p) (.int q) = some (.val (.bl (decide (q < p)))) := rfl
@[simp] theorem gGe_int : gGe (.int p) (.int q) = some (.val (.bl (decide (q ≤ p)))) := rfl
@[simp] theorem okN_int {n : Nat} : (D.int p).okN n = true := by cases n <;> rfl
@[simp] theorem okN_bl {n : Nat} {b : Bool} : (D.bl b).okN n = true := by cases n <;> rfl
@[simp] theorem okN_non {n : Nat} : D.non.okN n = true := by cases n <;> rfl
@[simp] theorem okN_tup {n : Nat} : (D.tup xs).okN (n + 1) = D.okNs n xs := rfl
@[simp] theorem okN_lst {n : Nat} : (D.lst xs).okN (n + 1) = D.okNs n xs := rfl
@[simp] theorem okNs_nil {n : Nat} : D.okNs n [] = true := by cases n <;> rfl
@[simp] theorem okNs_cons {n : Nat} : D.okNs n (d :: xs) = (d.okN n && D.okNs n xs) := by cases n <;> rfl
@[simp] theorem eqv_int : (D.int p).eqv (.int q) = (p == q) := rfl
@[simp] theorem gEq_int : gEq (.int p) (.int q) = some (.val (.bl (p == q))) := by unfold gEq; simp
@[simp] theorem gNe_int : gNe (.int p) (.int q) = some (.val (.bl (!(p == q)))) := by unfold gNe; simp
@[simp] theorem gEq_bl {b c : Bool} : gEq (.bl b) (.bl c) = some (.val (.bl (b == c))) := by unfold gEq; simp; rfl
@[simp] theorem gLen_tup : gLen [.tup xs] = some (.val (.int xs.length)) := rfl
@[simp] theorem gLen_lst : gLen [.lst xs] = some (.val (.int xs.length)) := rfl
@[simp] theorem gAbs_int : gAbs [.int p] = some (.val (.int (if p < 0 then -p else p))) := rfl
@[simp] theorem gInt_int : gInt [.int p] = some (.val (.int p)) := rfl
@[simp] theorem gTuple_tup : gTuple [.tup xs] = if D.imms xs then some (.val (.tup xs)) else none := rfl
@[simp] theorem gTuple_lst : gTuple [.lst xs] = if D.imms xs then some (.val (.tup xs)) else none := rfl
@[simp] theorem gList_tup : gList [.tup xs] = if D.imms xs then some (.fresh (.lst xs)) else none := rfl
@[simp] theorem gList_lst : gList [.lst xs] = if D.imms xs then some (.fresh (.lst xs)) else none := rfl
@[simp] theorem truth_bl {b : Bool} : truthD (.bl b) = some b := rfl
@[simp] theorem truth_tup : truthD (.tup xs) = some !xs.isEmpty := rfl
@[simp] theorem truth_lst : truthD (.lst xs) = some !xs.isEmpty := rfl
@[simp] theorem imm_int : (D.int p).imm = true := rfl
@[simp] theorem imm_bl {b : Bool} : (D.bl b).imm = true := rfl
@[simp] theorem imm_non : D.non.imm = true := rfl
@[simp] theorem imm_str {x : Str} : (D.str x).imm = true := rfl
@[simp] theorem imm_tup : (D.tup xs).imm = D.imms xs := rfl
@[simp] theorem imm_lst : (D.lst xs).imm = false := rfl
@[simp] theorem imms_nil : D.imms [] = true := rfl
@[simp] theorem imms_cons : D.imms (d :: xs) = (d.imm && D.imms xs) := rfl
@[simp] theorem isa_int_int : isaD "int" (.int p) = some true := rfl
@[simp] theorem isa_int_bool : isaD "bool" (.int p) = some false := rfl
@[simp] theorem isa_int_tup : isaD "tuple" (.int p) = some false := rfl
@[simp] theorem isa_int_str : isaD "str" (.int p) = some false := rfl
@[simp] theorem isa_bl_int {b : Bool} : isaD "int" (.bl b) = some true := rfl
@[simp] theorem isa_bl_bool {b : Bool} : isaD "bool" (.bl b) = some true := rfl
@[simp] theorem isa_bl_tup {b : Bool} : isaD "tuple" (.bl b) = some false := rfl
@[simp] theorem isa_tup_tup : isaD "tuple" (.tup xs) = some true := rfl
@[simp] theorem isa_tup_int : isaD "int" (.tup xs) = some false := rfl
@[simp] theorem isa_tup_bool : isaD "bool" (.tup xs) = some false := rfl
@[simp] theorem isa_non_tup : isaD "tuple" .non = some false := rfl
@[simp] theorem isa_non_int : isaD "int" .non = some false := rfl
@[simp] theorem isa_str_tup {x : Str} : isaD "tuple" (.str x) = some false := rfl
@[simp] theorem isa_str_int {x : Str} : isaD "int" (.str x) = some false := rfl
@[simp] theorem isNon_int : (D.int p).isNon = false := rfl
@[simp] theorem isNon_bl {b : Bool} : (D.bl b).isNon = false := rfl
@[simp] theorem isNon_tup : (D.tup xs).isNon = false := rfl
@[simp] theorem isNon_non : D.non.isNon = true := rfl
end
end Av

/-! loops over data; closed runs -/
namespace Av
open PySem L2
section
variable {d e : D} {i j : Nat} {sd : List SV} {xs : List D}
@[simp] theorem seq_tup : seqItems (.val (.tup xs)) = some (xs.map .val) := rfl
@[simp] theorem seq_lst : seqItems (.val (.lst xs)) = some (xs.map .val) := rfl
@[simp] theorem seq_btup : seqItems (.bval (.tup xs)) = some (xs.map fun d => if d.imm then .val d else .bval d) := rfl
@[simp] theorem seq_blst : seqItems (.bval (.lst xs)) = some (xs.map fun d => if d.imm then .val d else .bval d) := rfl
def stS (s : SV) (i : Nat) (sd : List SV) : R RV := match s with
  | .own d => .ok (.val d) (sd.set i (.sh d))
  | .sh d => .ok (.val d) sd
  | .bor d => .ok (.bval d) sd
  | _ => .fail
@[simp] theorem settle_slot : mSettle (.slot i) sd = stS (sd[i]?.getD .no) i sd := rfl
@[simp] theorem stS_own : stS (.own d) i sd = .ok (.val d) (sd.set i (.sh d)) := rfl
@[simp] theorem stS_sh : stS (.sh d) i sd = .ok (.val d) sd := rfl
@[simp] theorem stS_bor : stS (.bor d) i sd = .ok (.bval d) sd := rfl
@[simp] theorem settle_val : mSettle (.val d) sd = .ok (.val d) sd := rfl
@[simp] theorem settle_fresh : mSettle (.fresh d) sd = .ok (.val d) sd := rfl
@[simp] theorem settle_bval : mSettle (.bval d) sd = .ok (.bval d) sd := rfl
@[simp] theorem forGo_nil {g : MG} {b : MS} : forGo g b [] sd = .nx sd := rfl
def loopR (r : RS) (k : MS) : RS := match r with
  | .nx sd => k sd
  | .ct sd => k sd
  | .bk sd => .nx sd
  | r => r
@[simp] theorem loopR_nx {k : MS} : loopR (.nx sd) k = k sd := rfl
@[simp] theorem loopR_ct {k : MS} : loopR (.ct sd) k = k sd := rfl
@[simp] theorem loopR_bk {k : MS} : loopR (.bk sd) k = .nx sd := rfl
@[simp] theorem loopR_ret {k : MS} {r : RV} : loopR (.ret r sd) k = .ret r sd := rfl
def putB (o : Option (List SV)) (b : MS) : RS := match o with
  | some sd => b sd
  | none => .fail
@[simp] theorem putB_some {b : MS} : putB (some sd) b = b sd := rfl
theorem forGo_cons {g : MG} {b : MS} {r : RV} {rs : List RV} : forGo g b (r :: rs) sd = loopR (putB (g r sd) b) (forGo g b rs) := by
  show (match g r sd with | none => RS.fail | some sd1 => match b sd1 with | .nx sd2 => forGo g b rs sd2 | .ct sd2 => forGo g b rs sd2 | .bk sd2 => .nx sd2 | r => r) = _
  cases g r sd with
  | none => rfl
  | some sd1 =>
    simp only [putB]
    cases b sd1 <;> rfl
/-- a for that goes through -/
theorem for_all {g : MG} {b : MS} : ∀ (items : List RV) (I : Nat → List SV → Prop) (sd : List SV), I 0 sd → (∀ i sd, (h : i < items.length) → I i sd → ∃ sd', putB (g items[i] sd) b = .nx sd' ∧ I (i + 1) sd') → ∃ sd', forGo g b items sd = .nx sd' ∧ I items.length sd'
  | [], I, sd, h0, _ => ⟨sd, rfl, h0⟩
  | r :: rs, I, sd, h0, hs => by
    obtain ⟨sd1, e1, h1⟩ := hs 0 sd (Nat.succ_pos _) h0
    obtain ⟨sd2, e2, h2⟩ := for_all rs (fun i => I (i + 1)) sd1 h1 fun i sd hi hI => hs (i + 1) sd (Nat.succ_lt_succ hi) hI
    exact ⟨sd2, by rw [forGo_cons]; simp only [List.getElem_cons_zero] at e1; rw [e1]; exact e2, h2⟩
@[simp] theorem rangeItems_length {lo : Int} {n : Nat} : (rangeItems lo n).length = n := by unfold rangeItems; simp
theorem rangeItems_get? {lo : Int} {n i : Nat} (h : i < n) : (rangeItems lo n)[i]? = some (.val (.int (lo + (i : Int)))) := by unfold rangeItems; rw [List.getElem?_map, List.getElem?_range h]; rfl
theorem rangeItems_get {lo : Int} {n i : Nat} (h : i < (rangeItems lo n).length) : (rangeItems lo n)[i] = .val (.int (lo + (i : Int))) := (List.getElem?_eq_some_iff.mp (rangeItems_get? (by simpa using h))).2
theorem for_range {g : MG} {b : MS} {lo : Int} {n : Nat} (I : Nat → List SV → Prop) (sd : List SV) (h0 : I 0 sd) (hs : ∀ i sd, i < n → I i sd → ∃ sd', putB (g (.val (.int (lo + (i : Int)))) sd) b = .nx sd' ∧ I (i + 1) sd') : ∃ sd', forGo g b (rangeItems lo n) sd = .nx sd' ∧ I n sd' := by
  have h := for_all (g := g) (b := b) (rangeItems lo n) I sd h0 fun i sd hi hI => by
    rw [rangeItems_get hi]
    exact hs i sd (by simpa using hi) hI
  simpa using h
/-- a run that says True -/
def okT : FR → Bool
  | .ok (.val (.bl true)) [] => true
  | _ => false
theorem okT_eq {r : FR} (h : okT r = true) : r = .ok (.val (.bl true)) [] := by
  unfold okT at h
  split at h
  · rfl
  · cases h
@[simp] theorem rangeOk_small {k : Int} (h : 0 ≤ k) (h2 : k < 4611686018427387904) : rangeOk k = true := by
  unfold rangeOk
  rw [Bool.and_eq_true]
  exact ⟨decide_eq_true (by omega), decide_eq_true h2⟩
theorem imms_all {xs : List D} : D.imms xs = true ↔ ∀ d ∈ xs, d.imm = true := by
  constructor
  · exact fun h d hd => by
      induction xs with
      | nil => cases hd
      | cons x r ih =>
        rw [imms_cons, Bool.and_eq_true] at h
        rcases List.mem_cons.mp hd with rfl | hd
        · exact h.1
        · exact ih h.2 hd
  · intro h
    induction xs with
    | nil => rfl
    | cons x r ih => rw [imms_cons, h x List.mem_cons_self, ih fun d hd => h d (List.mem_cons_of_mem _ hd)]; rfl
@[simp] theorem imms_ints {ns : List Int} : D.imms (ns.map D.int) = true := imms_all.mpr fun d hd => by
  obtain ⟨n, _, rfl⟩ := List.mem_map.mp hd
  rfl
@[simp] theorem imms_append {xs ys : List D} : D.imms (xs ++ ys) = (D.imms xs && D.imms ys) := by
  induction xs with
  | nil => rfl
  | cons x r ih => rw [List.cons_append, imms_cons, imms_cons, ih, Bool.and_assoc]
theorem sizeN : (sizeLine : Nat) = 16777216 := sizeLine_eq
end
end Av
namespace Av
open PySem L2
section
variable {d e : D} {i j : Nat} {sd : List SV} {xs : List D}
@[simp] theorem gSl_tup {lo hi : Option Int} : gSl (.tup xs) lo hi = if D.imms xs then some (.val (.tup (cutD xs lo hi))) else none := rfl
@[simp] theorem gSl_lst {lo hi : Option Int} : gSl (.lst xs) lo hi = if D.imms xs then some (.fresh (.lst (cutD xs lo hi))) else none := rfl
theorem cutD_length (lo hi : Option Int) : (cutD xs lo hi).length ≤ xs.length := by
  unfold cutD
  simp only [List.length_take, List.length_drop]
  omega
/-- a comprehension's items -/
theorem comp_ex {vs : List Nat} {g : MG} {mt : M Bool} {me : M RV} {B : List SV} (P : D → Prop) : ∀ (items : List RV) (acc : List D) (sd : List SV), wipeS sd vs = B → acc.length + items.length ≤ sizeLine →
    (∀ r ∈ items, ∃ s1 s2 b, g r B = some s1 ∧ mt s1 = .ok b s2 ∧ (b = false → wipeS s2 vs = B) ∧ (b = true → ∃ d s3, (me s2).bind mShare = .ok d s3 ∧ P d ∧ wipeS s3 vs = B)) →
    ∃ ds, (∀ d ∈ ds, P d) ∧ ds.length ≤ items.length ∧ compGo vs g mt me items acc sd = .ok (.fresh (.lst (acc ++ ds))) B
  | [], acc, sd, h, _, _ => ⟨[], (fun d hd => nomatch hd), Nat.le_refl _, by
      show R.ok (RV.fresh (D.lst acc)) (wipeS sd vs) = _
      rw [h, List.append_nil]⟩
  | r :: rs, acc, sd, h, hl, hs => by
    obtain ⟨s1, s2, b, e1, e2, e3, e4⟩ := hs r List.mem_cons_self
    have ex : ∀ acc sd, compGo vs g mt me (r :: rs) acc sd = match g r (wipeS sd vs) with
      | none => .fail
      | some sd1 => match mt sd1 with
        | .ok true sd2 => match (mBind me mShare) sd2 with
          | .ok d sd3 => if acc.length < sizeLine then compGo vs g mt me rs (acc ++ [d]) sd3 else .fail
          | _ => .fail
        | .ok false sd2 => compGo vs g mt me rs acc sd2
        | _ => .fail := fun _ _ => rfl
    rw [List.length_cons] at hl
    rw [ex, h, e1]
    dsimp only
    rw [e2]
    cases b with
    | false =>
      obtain ⟨ds, h1, h2, h3⟩ := comp_ex P rs acc s2 (e3 rfl) (by omega) fun r hr => hs r (List.mem_cons_of_mem _ hr)
      exact ⟨ds, h1, by rw [List.length_cons]; omega, h3⟩
    | true =>
      obtain ⟨d, s3, e5, e6, e7⟩ := e4 rfl
      obtain ⟨ds, h1, h2, h3⟩ := comp_ex P rs (acc ++ [d]) s3 e7 (by rw [List.length_append, List.length_singleton]; omega) fun r hr => hs r (List.mem_cons_of_mem _ hr)
      refine ⟨d :: ds, fun x hx => ?_, by rw [List.length_cons, List.length_cons]; omega, ?_⟩
      · rcases List.mem_cons.mp hx with rfl | hx
        · exact e6
        · exact h1 x hx
      · dsimp only
        have e5' : (mBind me mShare) s2 = .ok d s3 := e5
        rw [e5']
        dsimp only
        rw [if_pos (by omega), h3, List.append_assoc]
        rfl
@[simp] theorem wipe_nil : wipeS sd [] = sd := rfl
@[simp] theorem wipe_cons {vs : List Nat} : wipeS sd (i :: vs) = (wipeS sd vs).set i .no := rfl
end
end Av

/-! own exceptions: class E(..): def __init__(self, f): super().__init__('..'); self.f = f -/
namespace Av
open PySem PySem.W PySem.Calls PyProof.Rows PySem.HandSPX
def eA (f : Str) (p1 p2 : Pos) : Arguments := { posonlyargs := [], args := [{ arg := "self", annotation := none, pos := p1 }, { arg := f, annotation := none, pos := p2 }], vararg := none, kwonlyargs := [], kw_defaults := [], kwarg := none, defaults := [] }
def eB (f t : Str) (j : Nat) (q1 q2 q3 q4 q5 q6 q7 q8 q9 q10 : Pos) : List Stmt :=
  [.Expr (.Call (.Attribute (.Call (.Name "super" q1) [] [] q2) "__init__" q3) [.Constant (.str t) j q4] [] q5) q6, .Assign [.Attribute (.Name "self" q7) f q8] (.Name f q9) q10]
def eS (f : Str) : Scope := { kind := .function, names := [("self", .local), (f, .local), ("__class__", .free), ("super", .globalImplicit)], isGenerator := false, isCoroutine := false, more := [] }
def EBind (f t : Str) : Prop := ∀ (qual : Str) (cl : List (Str × Addr)) (kV doc pm cdv ct : Value) (an : Option Addr) (j : Nat) (p1 p2 q1 q2 q3 q4 q5 q6 q7 q8 q9 q10 : Pos) (u v : Value),
  bindArgs (fnX "__init__" qual (eA f p1 p2) (eB f t j q1 q2 q3 q4 q5 q6 q7 q8 q9 q10) (eS f) cl .none kV doc pm an cdv ct) ⟨[u, v], []⟩ = pure [(("self" : Str), u), (f, v)]
def EEval (t : Str) (j : Nat) (q1 q2 q3 q4 q5 : Pos) : Prop := ∀ env : Env, ∃ pl : Sem Bool, eval (.Call (.Attribute (.Call (.Name "super" q1) [] [] q2) "__init__" q3) [.Constant (.str t) j q4] [] q5) env = (do
      let ov ← attributeBase (.Call (.Name "super" q1) [] [] q2) "__init__" env (eval (.Call (.Name "super" q1) [] [] q2) env)
      standAt q3.atName
      let (f, first) ← holding [ov] (getMethod ov "__init__" pl)
      callWith q5 f first (backTo q5 (starEach [.Constant (.str t) j q4] env)) [])
/-- a field's name that is none of the others -/
def fOk (f : Str) : Bool := !(("self" : Str) == f) && !(f == ("self" : Str)) && !(f == ("__class__" : Str)) && !(f == ("super" : Str)) && !(f == ("__debug__" : Str)) && !(("super" : Str) == f) && !(("__class__" : Str) == f)
/-- what the written part says of the class E at C, its __init__ at fI -/
structure ErrTxt (prog : Program) (K : Frag) (mg : Str → Option Value) (nm f t : Str) (C fI cc cda : Addr) : Prop where
  gC : mg nm = some (.ref C)
  cls : ∃ nm q N bs bm sn sub ab col dd k0 k1 k2 k3 k5, K.lookup C = some (excClassObj nm q C N bs bm true sn sub ab col dd k0 k1 k2 k3 k5 "ValueError.__new__") ∧ refsVE bm = true
  sa : findIn K (.ref C) "__setattr__" = some (some (.builtin "object.__setattr__"))
  ga : findIn K (.ref C) "__getattribute__" = some (some (.builtin "BaseException.__getattribute__"))
  gg : findIn K (.ref C) "__getattr__" = some none
  noN : findIn K (.ref C) f = some none
  iC : findIn K (.ref C) "__init__" = some (some (.ref fI))
  tC : typeIn K (.ref fI) = some (.type "function")
  kC : keepIn K (.ref C) = true
  exC : subIn K (.ref C) (.type "BaseException") = some true
  veC : subIn K (.ref C) (.type "ValueError") = some true
  mrC : mroIn K C (.ref C) = some true
  tyC : typeIn K (.ref C) = some (.type "type")
  hdC : hasDictIn K C = true
  sup : ks_superIn K C C "__init__" = some (some (.builtin "ValueError.__init__"))
  cell : ∃ (cl : Value) (cld : Option Addr) (csl : Array (Option Value)), K.lookup cc = some ⟨cl, cld, .cell (some (.ref C)), csl⟩
  code : ∃ (ccl : Value) (cdd : Option Addr) (vs : Array Value) (ccs : Array (Option Value)) (file : Str) (tf : Tok), K.lookup cda = some ⟨ccl, cdd, .fields vs, ccs⟩ ∧ vs[2]? = some (.str file tf) ∧ ((prog.main.file : Str) == file) = true
  fn : ∃ (oc : Value) (od : Option Addr) (kV doc pm : Value) (an : Option Addr) (ct : Value) (osl : Array (Option Value)) (qual : Str) (j : Nat) (p1 p2 q1 q2 q3 q4 q5 q6 q7 q8 q9 q10 : Pos),
    K.lookup fI = some ⟨oc, od, .func (fnX "__init__" qual (eA f p1 p2) (eB f t j q1 q2 q3 q4 q5 q6 q7 q8 q9 q10) (eS f) [("__class__", cc)] .none kV doc pm an (.ref cda) ct), osl⟩ ∧ codeIn K (.ref cda) qual = true ∧ EEval t j q1 q2 q3 q4 q5
  topS : (prog.main.scope.names.lookup ("super" : Str)).isSome = false
  stat : nsIn K cStatics "thirdparty.any" = some none
  sup0 : mg "super" = none
  fok : fOk f = true
  bnd : EBind f t
section
variable {prog : Program} {w : World} {A : Around} {E : Value → Shared → Prop} {R : Result → Shared → Prop} {s : Shared} {K : Frag} {mg mb : Str → Option Value} {nm f t : Str} {C fI cc cda : Addr}
theorem e_look {f : Str} (h : fOk f = true) : (eS f).names.lookup ("self" : Str) = some .local ∧ (eS f).names.lookup f = some .local ∧ (eS f).names.lookup ("__class__" : Str) = some .free ∧ (eS f).names.lookup ("super" : Str) = some .globalImplicit ∧ (f == ("__debug__" : Str)) = false ∧ (f == ("self" : Str)) = false := by
  unfold fOk at h
  simp only [Bool.and_eq_true, Bool.not_eq_true'] at h
  obtain ⟨⟨⟨⟨⟨⟨h1, h2⟩, h3⟩, h4⟩, h5⟩, h6⟩, h7⟩ := h
  have e1 : (("__class__" : Str) == ("self" : Str)) = false := by decide +kernel
  have e2 : (("super" : Str) == ("self" : Str)) = false := by decide +kernel
  have e3 : (("super" : Str) == ("__class__" : Str)) = false := by decide +kernel
  unfold eS
  simp [List.lookup_cons, h1, h2, h3, h4, h6, h7, e1, e2, e3, h5]
/-- what __init__ leaves of a fresh exception at x -/
structure ErrEnd (h h' : Heap) (x C dx : Addr) (f : Str) (v : Value) : Prop where
  keep : ∀ b o, b ≠ x → h.get? b = some o → h'.get? b = some o
  obj : ∃ t1 : Addr, h'.get? x = some { cls := .ref C, dict := some dx, data := .fields #[.ref t1, .none, .none, .none, .bool false, .none] }
  dbig : h.objs.size ≤ dx
  dne : dx ≠ x
  ns : h'.Ns1 dx (fun y => if y = f then some v else none)
theorem err_init (T : ErrTxt prog K mg nm f t C fI cc cda) {x t0 : Addr} {v : Value} (X : K.In s.heap) (hg : s.heap.Ns mainGlobals mg) (hb : s.heap.Ns builtinsNs mb) (hmb : mb "super" = some (.type "super")) (hlim : s.heap.NoLimit) (hx : s.heap.get? x = some (excO C t0)) (hnx : K.lookup x = none) (hroom : A.depth < recursionLimit)
    (hq : ∀ h' tk dx, ErrEnd s.heap h' x C dx f v → R (.ok (.ret .none)) { s with heap := h', toks := tk }) :
    codeAny (model prog w) A (.call (.ref fI) ⟨[.ref x, v], []⟩) R s := by
  obtain ⟨oc, od, kV, doc, pm, an, ct, osl, qual, j, p1, p2, q1, q2, q3, q4, q5, q6, q7, q8, q9, q10, ho, hcd, hev⟩ := T.fn
  obtain ⟨nm', q, N, bs, bm, sn, sub, ab, col, dd, k0, k1, k2, k3, k5, hC, hbm⟩ := T.cls
  obtain ⟨ccl, cdd, vs, ccs, file, tf, hcode, hvs, hfile⟩ := T.code
  obtain ⟨cl, cld, csl, hcell⟩ := T.cell
  have hcl : clsIn K C = some { name := nm', bases := bs, mro := .ref C :: bm, ns := N, qualname := q, hasDict := true, slotNames := sn, subclasses := sub, abstract := ab, collection := col, hasDel := false } := by unfold clsIn; rw [hC] <;> rfl
  obtain ⟨l1, l2, l3, l4, l5, l6⟩ := e_look T.fok
  have l6' : (("self" : Str) == f) = false := by
    have := T.fok
    unfold fOk at this
    simp only [Bool.and_eq_true, Bool.not_eq_true'] at this
    exact this.1.1.1.1.1.1
  refine ks_codeAny_call_defAt (binds := [("self", .ref x), (f, v)]) hroom (X _ _ ho) rfl hlim (codeRec_of X hcd) rfl (BindsTo.of_eq (T.bnd _ _ _ _ _ _ _ _ _ _ _ _ _ _ _ _ _ _ _ _ _ _ _)) ?_ ?_ (fun h₁ hns k => ?_) rfl rfl rfl
  · intro y hy
    unfold eS at hy
    simp at hy
    rcases hy with rfl | rfl | rfl | rfl <;> (intro z; cases z)
  · intro y hy
    simp at hy
    rcases hy with rfl | rfl
    · exact l1
    · exact l2
  · have X₁ : K.In h₁ := X.keeps k
    have hx₁ := k _ _ hx
    have hfu := X₁ _ _ ho
    have hL : s.heap.objs.size < h₁.objs.size := hns.lt
    have hself : (fun y => [(("self" : Str), Value.ref x), (f, v)].reverse.lookup y) "self" = some (.ref x) := by
      simp [List.lookup_cons, l6']
    have hfv : (fun y => [(("self" : Str), Value.ref x), (f, v)].reverse.lookup y) f = some v := by
      simp [List.lookup_cons]
    obtain ⟨pl, hpl⟩ := hev (callEnv (fnX "__init__" qual (eA f p1 p2) (eB f t j q1 q2 q3 q4 q5 q6 q7 q8 q9 q10) (eS f) [("__class__", cc)] .none kV doc pm an (.ref cda) ct) s.heap.objs.size fI)
    refine ks_wpAt_execs_cons (ks_wpAt_Expr_any (ks_wpAt_MethodCall (pl := pl) ?_ hpl))
    refine ks_wpAt_super_base (ar := { arg := "self", annotation := none, pos := p1 }) l4 l3 (by decide +kernel) rfl hfu rfl rfl rfl (X₁ _ _ hcode) rfl hvs hfile T.topS ?_
    refine ks_loadName_global rfl l4 (loadGlobal_builtin (hg.keeps k) T.sup0 (hb.keeps k) hmb ⟨rfl, ?_⟩)
    refine wpAny_loadName_free rfl l3 rfl ⟨_, X₁ _ _ hcell, rfl⟩ ?_
    refine wpAny_loadName_local rfl l1 hns hself ?_
    refine ks_wpAny_isType_cls (X₁ _ _ hC) rfl ⟨rfl, ?_⟩
    refine ks_wpAny_call_super (X₁ _ _ hC) rfl hx₁ rfl (fun c z => by cases z) (looks_mroIn X₁ T.mrC) (fun h₂ e2 kk2 => ?_)
    have X₂ : K.In h₂ := X₁.keeps kk2
    have hx₂ := kk2 _ _ hx₁
    have I₂ : InstAt h₂ x (excO C t0) C none := ⟨hx₂, rfl, rfl, trivial⟩
    have hsup : alongIn K "__init__" (((Value.ref C :: bm).dropWhile (· != .ref C)).drop 1) = some (some (.builtin "ValueError.__init__")) := by
      have := T.sup
      unfold ks_superIn at this
      rw [hcl] at this
      exact this
    refine kxs_getMethod kxs_ValueError e2 (looks_opaque X₂ T.stat) (l₀ := Value.ref C :: bm) (fun A Q E s k q => wpAny_bind ((looks_clsIn X₂ hcl) A _ E s k (wpAny_pure q))) rfl X₂ hsup (I₂.type.andThen (looks_subIn X₂ T.veC)) (ks_ne X₂ I₂ hcl) (by decide +kernel) ?_
    dsimp only
    have hu₃ : (h₂.push (kxs_mw "ValueError.__init__" x)).get? h₂.objs.size = some (kxs_mw "ValueError.__init__" x) := Heap.get?_push_size _ rfl
    have hx₃ : (h₂.push (kxs_mw "ValueError.__init__" x)).get? x = some (excO C t0) := Heap.get?_push_of_some _ hx₂
    refine kxs_callWith (i := "ValueError.__init__") (x := x) rfl (evalArgs_plain (spliced_cons (wpAny_Constant_str (k := j) (pos := q4) (spliced_nil ⟨hu₃, ?_⟩))))
    have hC₃ : (h₂.push (kxs_mw "ValueError.__init__" x)).get? C = some (excClassObj nm' q C N bs bm true sn sub ab col dd k0 k1 k2 k3 k5 "ValueError.__new__") := Heap.get?_push_of_some _ (X₂ _ _ hC)
    refine wpAny_call (codeAny_of_tree ?_)
    show wpAny _ _ (callAny (.ref h₂.objs.size) ⟨_, []⟩) _ _ _
    simp only [callAny]
    refine wpAny_bind (wpAny_load hu₃ ?_)
    simp only [kxs_mw, show (Value.type "method-wrapper" == Value.type "method" || Value.type "method-wrapper" == Value.type "builtin_function_or_method" || Value.type "method-wrapper" == Value.type "method-wrapper") = true by decide, if_true]
    refine KFB.if_so (by decide) ?_
    refine wpAny_bind (check_bound_init F.excBase_ValueError.toExcCallFacts hC₃ hx₃ rfl ?_)
    refine wpAny_bind (wpAny_pure (wpAny_pure ?_))
    refine ⟨plainId_quiet F.excBase_ValueError.init.plain _, codeAny_builtin F.excBase_ValueError.initEntry ?_⟩
    refine exc_init_tree (cls := .ref C) (t0 := t0) (dv := none) (c2 := .none) (c3 := .none) (b4 := .bool false) hx₃ (by rw [sizeLine_eq]; exact (by decide : 1 ≤ 16777216)) (fun h₄ k4 e4 t4 => ?_)
    have ks : ∀ b o, b ≠ x → h₁.get? b = some o → h₄.get? b = some o := fun b o hb e => k4 b o hb (Heap.get?_push_of_some _ (kk2 b o e))
    have hns₄ : h₄.Ns s.heap.objs.size (fun y => [(("self" : Str), Value.ref x), (f, v)].reverse.lookup y) := by
      have hxL : s.heap.objs.size ≠ x := Nat.ne_of_gt (Heap.lt_size hx)
      obtain ⟨oL, es, ep, hoL, r⟩ := hns
      exact ⟨oL, es, ep, ks _ _ hxL hoL, r⟩
    have X₄ : K.In h₄ := fun a o e => ks a o (fun z => by rw [z, hnx] at e; cases e) (X₁ a o e)
    refine ks_wpAt_execs_cons (ks_wpAt_Assign_Attr ?_)
    refine wpAt_of_wpAny (wpAny_Name ?_ l5)
    refine wpAny_loadName_local rfl l2 hns₄ hfv ?_
    refine wpAny_Name ?_ (by decide)
    refine wpAny_loadName_local rfl l1 hns₄ hself ?_
    refine set_plain X₄ (ox := excO C (h₂.push (kxs_mw "ValueError.__init__" x)).objs.size) (od := none) ⟨e4, rfl, rfl, trivial⟩ T.sa ?_
    refine exc_osa X₄ e4 hcl (show refsVE (.ref C :: bm) = true from hbm) rfl T.noN (fun h₅ tk₅ dx k₅ dn dne hx₅ hn₅ => ?_)
    have z1 := Heap.lt_size e2
    have z2 := Heap.lt_size hu₃
    have z3 := Heap.lt_size t4
    have hend : ErrEnd s.heap h₅ x C dx f v := ⟨fun b o hb e => k₅ b o hb (ks b o hb (k b o e)), ⟨_, hx₅⟩, Nat.le_of_lt (Nat.lt_of_lt_of_le (Nat.lt_trans (Nat.lt_trans hL z1) (Nat.lt_trans z2 z3)) dn), dne, hn₅⟩
    exact wpAt_of_wpAny (wpAny_execs_nil (hq h₅ tk₅ dx hend))
/-- a made exception -/
structure ErrMade (h h' : Heap) (e C d : Addr) (f : Str) (v : Value) : Prop where
  keep : ∀ b o, h.get? b = some o → h'.get? b = some o
  new : h.objs.size ≤ e
  obj : ∃ t1 : Addr, h'.get? e = some { cls := .ref C, dict := some d, data := .fields #[.ref t1, .none, .none, .none, .bool false, .none] }
  dbig : h.objs.size ≤ d
  dne : d ≠ e
  ns : h'.Ns1 d (fun y => if y = f then some v else none)
theorem err_one (v : Value) : [v].length ≤ sizeLine := by
  rw [sizeLine_eq]
  exact (by decide : 1 ≤ 16777216)
theorem err_made (T : ErrTxt prog K mg nm f t C fI cc cda) {v : Value} (X : K.In s.heap) (hg : s.heap.Ns mainGlobals mg) (hb : s.heap.Ns builtinsNs mb) (hmb : mb "super" = some (.type "super")) (hlim : s.heap.NoLimit) (hroom : A.depth + 1 < recursionLimit)
    (hq : ∀ h' tk e d, ErrMade s.heap h' e C d f v → R (.ok (.ret (.ref e))) { s with heap := h', toks := tk }) :
    codeAny (model prog w) A (.call (.ref C) ⟨[v], []⟩) R s := by
  obtain ⟨nm', q, N, bs, bm, sn, sub, ab, col, dd, k0, k1, k2, k3, k5, hC, hbm⟩ := T.cls
  obtain ⟨hp, g, dr, tk, os⟩ := s
  have k : ∀ b o, hp.get? b = some o → ((hp.push (kdv_tup [v])).push (excO C hp.objs.size)).get? b = some o := fun b o e => Heap.get?_push_of_some _ (Heap.get?_push_of_some _ e)
  have hget : ((hp.push (kdv_tup [v])).push (excO C hp.objs.size)).get? (hp.objs.size + 1) = some (excO C hp.objs.size) := by heap_get
  have hnx : K.lookup (hp.objs.size + 1) = none := by
    cases e : K.lookup (hp.objs.size + 1) with
    | none => rfl
    | some o =>
      have z : hp.get? (hp.objs.size + 1) = some o := X _ _ e
      exact absurd (Nat.lt_of_succ_lt (Heap.lt_size z)) (Nat.lt_irrefl _)
  refine call_own F.excBase_ValueError (fun X => refsVE_contains X bm hbm) (X _ _ hC) (looks_findIn X T.iC) (fun self => bind_fn X self T.tC) (err_one v) ?_
  refine err_init (s := ⟨(hp.push (kdv_tup [v])).push (excO C hp.objs.size), g, dr, tk, os⟩) T (X.keeps k) (hg.keeps k) (hb.keeps k) hmb (hlim.keeps k) hget hnx ?_ fun h' tk' dx ⟨k', hx, dn, dne, hns⟩ => ?_
  · show A.depth + 1 < recursionLimit
    exact hroom
  · have old : ∀ b o, hp.get? b = some o → h'.get? b = some o := fun b o e => k' b o (Nat.ne_of_lt (Nat.lt_succ_of_lt (Heap.lt_size e))) (k b o e)
    have z : hp.objs.size + 1 + 1 ≤ dx := by
      first
        | (simpa only [Heap.size_push] using dn)
        | exact dn
        | (have q := dn; rw [Heap.size_push, Heap.size_push] at q; exact q)
    exact ⟨rfl, hq h' tk' (hp.objs.size + 1) dx ⟨old, Nat.le_succ _, hx, Nat.le_trans (Nat.le_trans (Nat.le_succ _) (Nat.le_succ _)) z, dne, hns⟩⟩
end
end Av

/-! raise E(x) -/
namespace Av
open PySem PySem.Spec PyProof.Rows L2
theorem relO_err {f : Str} {v : V} {v' : Value} (r : RelV v v') (g : Str) : RelO (List.lookup g [(f, v)]) (if g = f then some v' else none) := by
  by_cases hw : g = f
  · subst hw
    rw [if_pos rfl]
    have q : List.lookup g [(g, v)] = some v := by simp [List.lookup]
    rw [q]
    exact r
  · rw [if_neg hw]
    have qw : (g == f) = false := by simpa using hw
    have q2 : List.lookup g [(f, v)] = none := by simp [List.lookup, qw]
    rw [q2]
    trivial
section
variable {fx : Fx} {X : Cx} {Wx : WX} {nm f t : Str} {C fI cc cda : Addr} {a : Expr} {p pos pos2 : Pos}
def tMkErr (C : Addr) (f : Str) (ta : TA) : L2.St → Hp → XK → Prop := fun σ H Q => ta σ H fun vs H1 => ∃ v, vs = [v] ∧ ∀ d, H1 d = none → Q (.ref C) (some d) (upd H1 d (.xd [(f, v)]))
theorem pmk_err {ta : TA} {k : Nat} (T : ErrTxt X.prog X.K X.mg nm f t C fI cc cda) (hr : Room k X.A) (ha : PA X [a] ta) (hg : Gl X nm) (hdb : (nm == ("__debug__" : Str)) = false)
    (he : starEach (a :: []) X.env = (false, eval a X.env) :: starEach [] X.env := by rfl) (hpl : (backTo pos (starEach [] X.env)).any (·.1) = false := by rfl) :
    L2N.PMk X (.Call (.Name nm p) [a] [] pos) (tMkErr C f ta) := by
  intro pins s σ H Q I h
  refine wpAny_Call_Name_kw (ld_glob I hg T.gC ?_ hdb)
  refine PySem.W.callWith_K (h₀ := X.base) I.ok.mod.kin T.kC (thn (ha.run pos pins s σ H _ I h) fun us s1 hh => ?_) he hpl
  obtain ⟨vs, H1, I1, r1, v, ev, q1⟩ := hh
  subst ev
  refine ⟨I1.kIn, ?_⟩
  cases r1 with
  | cons rv rn =>
    rename_i v' us'
    cases rn
    show wpAny _ _ (call (.ref C) [v']) _ _ _
    have hlim := I1.nolimit
    obtain ⟨mb, hb1, hb2⟩ := I1.ok.mod.blt
    have hgl : s1.heap.Ns mainGlobals X.mg := I1.ok.mod.glob.keeps I1.bk
    have hbl : s1.heap.Ns builtinsNs mb := hb1.keeps I1.bk
    have hsu : mb "super" = some (.type "super") := (hb2 "super" (by decide +kernel)).trans rfl
    have hkin := I1.kIn
    obtain ⟨hp, g, dr, tk, os⟩ := s1
    refine wpAny_call (err_made T hkin hgl hbl hsu hlim (by have := hr.dp; omega) fun h' tk' e d M => ?_)
    show L2N.MkP X pins σ Q (.ref e) ⟨h', g, dr, tk', os⟩
    obtain ⟨t1, hoe⟩ := M.obj
    have hns := M.ns
    obtain ⟨G', g1, g2⟩ := restrict h' fun b => decide (b ≠ e)
    have gk : ∀ b, b ≠ e → G'.get? b = h'.get? b := fun b hb => g1 b (decide_eq_true hb)
    have ge : G'.get? e = none := g2 e (by simp)
    have old : ∀ b o, hp.get? b = some o → G'.get? b = some o := fun b o q => (gk b (Nat.ne_of_lt (Nat.lt_of_lt_of_le (Heap.lt_size q) M.new))).trans (M.keep b o q)
    have ob : ObjOk X.prog X.w (upd H1 d (.xd [(f, v)])) G' d (.xd [(f, v)]) :=
      ⟨_, hns.at (fun o q => (gk d M.dne).trans q), fun g => relO_err rv g⟩
    have J : Inv X pins σ (upd H1 d (.xd [(f, v)])) ⟨G', g, dr, tk', os⟩ := I1.laid (t' := tk') old M.dbig ob
    refine ⟨e, _, _, ⟨G', g, dr, tk', os⟩, _, .ref C, some d, rfl, J, fun b o q => ?_, ge, hoe, ⟨rfl, rfl, fun vs e => by cases e; rfl⟩, rfl, rfl, ?_, rfl, I1.bare, raises_own T.exC T.tyC, q1 d (I1.hok.fresh M.dbig)⟩
    · by_cases hb : b = e
      · have q' : G'.get? b = some o := q
        rw [hb, ge] at q'; cases q'
      · exact (gk b hb).symm.trans q
    · rw [upd_ne (Ne.symm M.dne)]
      exact I1.hok.fresh M.new
def mRaise (nm f : Str) (ma : M RV) : MS := mThen (mBind ma fun r => mBind (mShare r) fun d => mPure d) fun d => fun sd => .exc ⟨nm, [(f, d)]⟩ sd
theorem ss_raise {k : Nat} {ma : M RV} (hc : X.calm = true) (tk : L2N.Takes X Wx) (T : ErrTxt X.prog X.K X.mg nm f t C fI cc cda) (hr : Room k X.A) (ha : SE fx X Wx a ma) (hg : Gl X nm := by rfl) (hdb : (nm == ("__debug__" : Str)) = false := by decide)
    (he : starEach (a :: []) X.env = (false, eval a X.env) :: starEach [] X.env := by rfl) (hpl : (backTo pos (starEach [] X.env)).any (·.1) = false := by rfl) :
    SS fx X Wx (.Raise (some (.Call (.Name nm p) [a] [] pos)) none pos2) (mRaise nm f ma) := by
  obtain ⟨ta, pa, q⟩ := ha.ex
  refine ⟨_, L2N.ps_raise hc tk (pmk_err T hr (pa_cons pa pa_nil he) hg hdb he hpl), fun F G H sd σ D S h => ?_⟩
  unfold mRaise at h
  have h := mThen_po (σ := σ) (β := V) (Rl := fun F _ _ _ d v => Rep (wd X) F d v) h
  refine one q S h fun F1 G1 H1 sd1 ra v e1 e2 S1 r1 h => ?_
  obtain ⟨d, sd2, F2, G2, e3, e4, S2, rd, h⟩ := h.share S1 r1
  refine ⟨v, rfl, fun dd hdd => ?_⟩
  obtain ⟨d', sd', F', G', i1, i2, S', rq, h⟩ := h F2 G2 H1 v (Same.refl _) (Same.refl _) S2 rd
  refine h _ _ _ σ (.ref C) (some dd) (same_upd (S'.freeF hdd)) (same_upd (S'.freeG hdd)) (S'.newSh (o := .xd [(f, v)]) hdd) ⟨T.gC, .inr ⟨dd, [(f, v)], rfl, upd_same, rfl, ?_⟩⟩
  exact RepL.cons (rq.keep (same_upd (S'.freeF hdd))) RepL.nil
end
end Av

/-! an exception that a suite holds: its fields, isinstance -/
namespace Av
open PySem PySem.W PySem.Calls PyProof.Rows
section
variable {prog : Program} {w : World} {A : Around} {E : Value → Shared → Prop} {s : Shared} {K : Frag} {x D : Addr} {ox : Obj} {od : Option Obj}
theorem find_data {C : Addr} {nm : Str} {a g : Value} (c0 : (clsIn K C).isSome = true) (c1 : findIn K (.ref C) nm = some (some a)) (c2 : specialIn K a "__get__" = some (some g)) (c3 : takesIn K a = some true) : findObj K C od nm = some (.bind g a) := by
  obtain ⟨cd, c4⟩ := Option.isSome_iff_exists.mp c0
  unfold findObj; rw [c4, Option.bind_some, c1, Option.bind_some]; simp [c2, c3]
/-- what a class of exceptions says -/
structure ExCls (K : Frag) (D : Addr) : Prop where
  ga : findIn K (.ref D) "__getattribute__" = some (some (.builtin "BaseException.__getattribute__"))
  gt : findIn K (.ref D) "__getattr__" = some none
  be : subIn K (.ref D) (.type "BaseException") = some true
  hd : hasDictIn K D = true
  cl : findIn K (.ref D) "__class__" = some (some (.builtin "object.__class__"))
  sp : specialIn K (.builtin "object.__class__") "__get__" = some (some (.builtin "getset_descriptor.__get__"))
  tk : takesIn K (.builtin "object.__class__") = some true
  ob : mroIn K D (.type "object") = some true
theorem exc_class {Q : Option Value → Shared → Prop} (c : ExCls K D) (X : K.In s.heap) (I : InstAt s.heap x ox D od) (h : Q (some (.ref D)) { s with toks := s.toks + 1 }) : wpAny (model prog w) A (getAttr? (.ref x) "__class__") Q E s := by
  have fo : findObj K D od "__class__" = some (.bind (.builtin "getset_descriptor.__get__") (.builtin "object.__class__")) := find_data (by obtain ⟨cd, q, _⟩ := any_some c.hd; rw [q]; rfl) c.cl c.sp c.tk
  obtain ⟨hp, g, d, t, os⟩ := s
  have k0 := I.type (M := model prog w); have k1 := looks_findIn (M := model prog w) X c.ga; have k2 := looks_findIn (M := model prog w) X c.gt; have k3 := looks_find (M := model prog w) X I fo
  have ks : Looks (model prog w) hp (isInstance (.ref x) (.type "BaseException")) true := k0.andThen (looks_subIn X c.be)
  have n0 : (false && onTheHeap (Value.builtin "BaseException.__getattribute__")) = false := rfl; have n2 : (Value.builtin "BaseException.__getattribute__" == Value.builtin "object.__getattribute__") = false := by decide +kernel
  have n1 : (onTheHeap (Value.ref D) && Value.builtin "BaseException.__getattribute__" == Value.builtin "object.__getattribute__") = false := by rw [n2]; rfl
  unfold getAttr? getAttrBy? getAttrBy; refine wpAny_bind (wpAny_mkText (wpAny_bind (wpAny_attempt (wpAny_holding (wpAny_bind (k0.at (wpAny_bind (k1.at ?_))))))))
  show wpAny _ _ (if (onTheHeap (Value.ref D) && (Value.builtin "BaseException.__getattribute__" == Value.builtin "object.__getattribute__")) = true then _ else _) _ _ _; rw [n1, if_neg Bool.false_ne_true]
  unfold getAttrByItsOwn hookBefore; refine wpAny_bind ?_; rw [if_pos (show onTheHeap (Value.ref D) = true from rfl)]
  refine k2.at ?_; refine wpAny_bind (wpAny_attempt (wpAny_holding ?_)); unfold callGetattribute; rw [n0, if_neg Bool.false_ne_true]; unfold boundAndCalled
  rw [PySem.F.excAttr_ValueError.ga.bind (.ref x)]; refine wpAny_bind (wpAny_pure ?_)
  show wpAny _ _ (call (.builtin "BaseException.__getattribute__") [.ref x, Value.str "__class__" t]) _ _ _; refine wpAny_call (codeAny_call_builtin PySem.F.excAttr_ValueError.ga.plain PySem.F.entry_bexc_ga ?_)
  refine @check_slot (model prog w) _ _ ⟨hp, g, d, t + 1, os⟩ "BaseException.__getattribute__" "BaseException" "__getattribute__" (.ref x) [Value.str "__class__" t] [] _ (by decide +kernel) (by decide +kernel) ks (PySem.F.args_bexc_ga (.ref x) (.str "__class__" t)) ?_
  unfold Builtin.«object.__getattribute__»; refine wpAny_bind (wpAny_of_eq (a := ((Value.ref x : Value), [(Value.str "__class__" t)])) (by first | rfl | (simp only [slotArgs]; rfl)) ?_)
  refine wpAny_bind (wpAny_pure (wpAny_bind (k0.at (wpAny_bind (k3.at ?_)))))
  show wpAny _ _ ((holding [Value.builtin "object.__class__"] (call (.builtin "getset_descriptor.__get__") [.builtin "object.__class__", .ref x, .ref D])) >>= ret) _ _ _
  refine wpAny_bind (wpAny_holding (wpAny_call (class_get (s := ⟨hp, g, d, t + 1, os⟩) (ox := ox) (od := od) X I c.ob ?_)))
  refine wpAny_pure ?_; show wpAny _ _ (handedOut (.ref D)) _ _ _; rw [handedOut_of (v := .ref D) rfl]
  first
    | exact wpAny_pure (wpAny_pure h)
    | exact wpAny_pure h
    | exact wpAny_pure (wpAny_bind (wpAny_pure (wpAny_pure h)))
theorem exc_kit (c : ExCls K D) : KitX K (.ref x) (.ref D) (fun h => InstAt h x ox D od) := by
  obtain ⟨cd, hc, _⟩ := any_some c.hd
  have ho : ∃ c' d' cd' sl', K.lookup D = some ⟨c', d', .cls cd', sl'⟩ := by
    unfold clsIn at hc
    split at hc
    · rename_i ho; exact ⟨_, _, _, _, ho⟩
    · cases hc
  obtain ⟨c', d', cd', sl', ho⟩ := ho
  refine ⟨fun _ _ _ I => I.type, fun _ _ X _ => ?_, fun h tp dd its n sl X htp => ?_, fun X I k => exc_class c X I k⟩
  · intro A' Q' E' s' k q
    unfold isType loadHead
    exact wpAny_bind (wpAny_loadPart (k _ _ (X _ _ ho)) (wpAny_pure q))
  · refine Bool.eq_false_iff.mpr fun q => ?_
    obtain rfl := Value.ref.inj (beq_iff_eq.mp q)
    cases (X _ _ ho).symm.trans htp
end
end Av
namespace Av
open PySem PySem.Spec PyProof.Rows L2
/-- isinstance(e, c), e the exception that the suite holds; it has a dict -/
def rXis (K : PySem.W.Frag) (D a dd : Addr) : List V → Hp → VK → Prop := fun xs H Q => ∃ (c : V) (cv : Value) (b : Bool) (fs : List (Str × V)), xs = [.ref a, c] ∧ (∀ u, RelV c u → u = cv) ∧ PySem.W.kitOne K (.ref D) cv = some b ∧ H dd = some (.xd fs) ∧ Q (.bl b) H
theorem call_xis {X : Cx} {a D dd : Addr} {oe : Obj} (hp : (a, oe) ∈ X.pn) (C : ExCls X.K D) (hz : Zc (.ref D) (some dd) oe) (hf : ∃ vs, oe.data = .fields vs) : CallR X (.builtin "isinstance") (rXis X.K D a dd) := by
  intro pins s σ H xs us Q I r h
  obtain ⟨c, cv, b, fs, rfl, hcv, e, hdd, q⟩ := h
  cases r with
  | cons rx rr =>
    cases rr with
    | cons rt rr =>
      cases rr
      cases rx
      have ec := hcv _ rt
      subst ec
      obtain ⟨hget, _⟩ := I.pin (a, oe) (List.mem_append_left _ hp)
      obtain ⟨vs, hv⟩ := hf
      obtain ⟨mA, hns, hr⟩ := (show ObjOk X.prog X.w H s.heap dd (.xd fs) from I.hok dd _ hdd)
      obtain ⟨od, ho, hl⟩ := lookIn_ns hns
      have J : PySem.W.InstAt s.heap a oe D (some od) := ⟨hget, hz.1, by unfold PySem.W.notCls; rw [hv], by rw [hz.2]; exact ho⟩
      exact PySem.W.kia_one (exc_kit C) I.kIn J e (fun z => nomatch z) fun tk => ⟨.bl b, H, I.kept (t' := tk) fun _ _ z => z, rfl, q⟩
/-- the classes of exceptions: tab tells which is a subclass of which, fl which field is none of the class's own names -/
structure ExTab (K : PySem.W.Frag) (mg : Str → Option Value) (tab : List ((Str × Str) × Bool)) (fl : List (Str × Str)) : Prop where
  q : ∀ c y b, ((c, y), b) ∈ tab → ∃ (C : Addr) (cv : Value), mg c = some (.ref C) ∧ ExCls K C ∧ (mg y = some cv ∨ (mg y = none ∧ bootBuiltins y = some cv)) ∧ (∃ v : V, RelV v cv ∧ ∀ u, RelV v u → u = cv) ∧ PySem.W.kitOne K (.ref C) cv = some b ∧ PySem.W.exmOne K (.ref C) cv = some b
  f : ∀ c f, (c, f) ∈ fl → ∃ C : Addr, mg c = some (.ref C) ∧ XfC K C ∧ PySem.W.findIn K (.ref C) f = some none
/-- what is known of the exception at derivation: x stands for it; its dict is shared -/
structure ExAt (W : Wd) (fx : Fx) (i : Nat) (x : Xn) (a : Addr) (cls : Value) (d : Option Addr) : Prop where
  exn : fx.exn = some (i, a)
  cls : W.mg x.c = some cls
  dic : x.fs = [] ∨ ∃ dd fs, d = some dd ∧ fx.F0 dd = some (.xd fs) ∧ fs.map (·.1) = x.fs.map (·.1) ∧ RepL W fx.F0 (x.fs.map (·.2)) (fs.map (·.2))
/-- slot i holds the exception -/
def mExn (i : Nat) : M Unit := fun sd => match sd[i]?.getD .no with
  | .exn => .ok () sd
  | _ => .fail
def mXf (fl : List (Str × Str)) (i : Nat) (x : Xn) (f : Str) : M RV := mBind (mExn i) fun _ => if fl.contains (x.c, f) then mBind (mGet (x.fs.lookup f)) fun d => mPure (.val d) else mFail
def mXis (tab : List ((Str × Str) × Bool)) (i : Nat) (x : Xn) (y : Str) : M RV := mBind (mExn i) fun _ => if x.fs.isEmpty then mFail else mBind (mGet (tab.lookup (x.c, y))) fun b => mPure (.val (.bl b))
theorem Po.exn {α β : Type} {W : Wd} {fx : Fx} {Wx : WX} {F G H : Hp} {σ : L2.St} {Rl : Hp → Hp → Hp → List SV → α → β → Prop} {Q : β → Hp → Prop} {i : Nat} {k : Unit → M α} {sd : List SV} (S : SR W fx F G H sd σ) (h : Po W fx F G σ Wx Rl Q ((mBind (mExn i) k) sd)) :
    ∃ a, fx.exn = some (i, a) ∧ σ[i]? = some (some (.ref a)) ∧ Po W fx F G σ Wx Rl Q (k () sd) := by
  unfold mBind mExn at h
  cases e : sd[i]? with
  | none => rw [e] at h; exact h.elim
  | some s =>
    rw [e] at h
    have q := S.slot i s e
    cases s with
    | exn => obtain ⟨a, h1, h2⟩ := q; exact ⟨a, h1, h2, h⟩
    | no => exact h.elim
    | sh d => exact h.elim
    | bor d => exact h.elim
    | own d => exact h.elim
    | io d => exact h.elim
theorem lookup_map {α : Type} {f : Str} : ∀ {fs : List (Str × V)} {ds : List (Str × D)} {W : Wd} {F : Hp} {d : D}, fs.map (·.1) = ds.map (·.1) → RepL W F (ds.map (·.2)) (fs.map (·.2)) → ds.lookup f = some d → ∃ v, fs.lookup f = some v ∧ Rep W F d v
  | [], [], W, F, d, _, _, h => by simp at h
  | [], _ :: _, W, F, d, h, _, _ => by simp at h
  | _ :: _, [], W, F, d, h, _, _ => by simp at h
  | (g, v) :: fs, (g', e) :: ds, W, F, d, h1, h2, h3 => by
    simp only [List.map_cons, List.cons.injEq] at h1
    obtain ⟨rfl, h1⟩ := h1
    obtain ⟨v', ws, e1, e2, e3⟩ := h2.cons_inv
    simp only [List.map_cons, List.cons.injEq] at e1
    obtain ⟨rfl, rfl⟩ := e1
    rw [List.lookup_cons] at h3 ⊢
    cases hb : (f == g) with
    | true => rw [hb] at h3; cases h3; exact ⟨v, rfl, e2⟩
    | false => rw [hb] at h3; exact lookup_map (α := α) h1 e3 h3
section
variable {fx : Fx} {X : Cx} {Wx : WX} {a : Addr} {oe : Obj} {cls : Value} {d : Option Addr} {pn : List (Addr × Obj)} {i : Nat} {n f : Str} {x : Xn} {pe pos p : Pos} {tab : List ((Str × Str) × Bool)} {fl : List (Str × Str)}
theorem se_xf (T : ExTab X.K X.mg tab fl) (A : ExAt (wd X) fx i x a cls d) (hz : L2N.Zn cls d oe) (hf : ∃ vs, oe.data = .fields vs) (hN : X.N[i]? = some n) (hv : Vis X.env.scope n) (hd : (n == ("__debug__" : Str)) = false := by decide) (hcd : (n == ("__classdict__" : Str)) = false := by decide)
    (hb : attributeBase (.Name n pe) f X.env (eval (.Name n pe) X.env) = eval (.Name n pe) X.env := by rfl) :
    SE fx (X.suite a ((a, oe) :: pn)) Wx (.Attribute (.Name n pe) f pos) (mXf fl i x f) := by
  by_cases hm : (fl.contains (x.c, f)) = true
  · obtain ⟨C, hC, xc, hno⟩ := T.f x.c f (by simpa using hm)
    have hcls : cls = .ref C := by have := A.cls; rw [show (wd X).mg = X.mg from rfl, hC] at this; exact (Option.some.inj this).symm
    refine ⟨_, pe_xf xc hno hz.zc hf (pe_var hN hv hd hcd) hb, fun F G H sd σ Q S h => ?_⟩
    obtain ⟨a', e1, e2, h⟩ := h.exn S
    rw [A.exn] at e1
    cases e1
    rw [if_pos hm] at h
    obtain ⟨v0, k1, h⟩ := h.getB
    rcases A.dic with z | ⟨dd, fs, rfl, hF, hn, hr⟩
    · rw [z] at k1; simp at k1
    · obtain ⟨v, l1, l2⟩ := lookup_map (α := Unit) hn hr k1
      exact ⟨.ref a, e2, rfl, hcls, dd, fs, v, rfl, S.fh _ _ (S.ff _ _ hF), l1, h F G H v (Same.refl _) (Same.refl _) S (Rep.keep S.ff l2)⟩
  · exact ⟨fun _ _ _ => False, ⟨fun pins s σ H Q I z => z.elim⟩, fun F G H sd σ Q S h => by
      obtain ⟨a', e1, e2, h⟩ := h.exn S
      rw [if_neg hm] at h
      exact h.elim⟩
theorem se_xisY {y : Str} {p1 p2 : Pos} (hp : (a, oe) ∈ X.pn) (T : ExTab X.K X.mg tab fl) (A : ExAt (wd X) fx i x a cls d) (hz : L2N.Zn cls d oe) (hf : ∃ vs, oe.data = .fields vs) (hg : Gl X "isinstance") (hm : X.mg "isinstance" = none) (hgy : Gl X y) (hN : X.N[i]? = some n) (hv : Vis X.env.scope n) (hd : (n == ("__debug__" : Str)) = false := by decide) (hcd : (n == ("__classdict__" : Str)) = false := by decide)
    (hn2 : y ≠ "__name__" := by decide) (hdb2 : (y == ("__debug__" : Str)) = false := by decide)
    (he : starEach [.Name n pe, .Name y p2] X.env = (false, eval (.Name n pe) X.env) :: starEach [.Name y p2] X.env := by rfl) (he2 : starEach [.Name y p2] X.env = (false, eval (.Name y p2) X.env) :: starEach [] X.env := by rfl)
    (hpl : (backTo pos (starEach [.Name y p2] X.env)).any (·.1) = false := by rfl) :
    SE fx X Wx (.Call (.Name "isinstance" p1) [.Name n pe, .Name y p2] [] pos) (mXis tab i x y) := by
  cases hl : tab.lookup (x.c, y) with
  | none =>
    exact ⟨fun _ _ _ => False, ⟨fun pins s σ H Q I z => z.elim⟩, fun F G H sd σ Q S h => by
      obtain ⟨a', e1, e2, h⟩ := h.exn S
      split at h
      · exact h.elim
      · rw [hl] at h; exact h.elim⟩
  | some b =>
    rcases A.dic with z | ⟨dd, fs, rfl, hF, hn, hr⟩
    · exact ⟨fun _ _ _ => False, ⟨fun pins s σ H Q I z => z.elim⟩, fun F G H sd σ Q S h => by
        obtain ⟨a', e1, e2, h⟩ := h.exn S
        rw [z] at h
        exact h.elim⟩
    · have hmem : ((x.c, y), b) ∈ tab := by
        clear hz hf hr hn hF A T
        induction tab with
        | nil => simp at hl
        | cons p r ih =>
          obtain ⟨k, c⟩ := p
          rw [List.lookup_cons] at hl
          cases hb : ((x.c, y) == k) with
          | true => rw [hb] at hl; cases hl; rw [← beq_iff_eq.mp hb]; exact List.mem_cons_self
          | false => rw [hb] at hl; exact List.mem_cons_of_mem _ (ih hl)
      obtain ⟨C, cv, hC, xc, hy, ⟨v, rv, hvu⟩, k1, k2⟩ := T.q x.c y b hmem
      have hcls : cls = .ref C := by have := A.cls; rw [show (wd X).mg = X.mg from rfl, hC] at this; exact (Option.some.inj this).symm
      subst hcls
      have pey : PE X (.Name y p2) (tC v) := by
        rcases hy with hy | ⟨hy, hbo⟩
        · exact pe_glob hgy hy rv hdb2
        · exact pe_bltn hgy hy hbo rv hn2 hdb2
      refine ⟨_, pe_callB (call_xis hp xc hz.zc hf) hg hm (by rfl) (pa_cons (pe_var hN hv hd hcd) (pa_cons pey pa_nil he2) he) (by decide) (by decide) he hpl, fun F G H sd σ Q S h => ?_⟩
      obtain ⟨a', e1, e2, h⟩ := h.exn S
      rw [A.exn] at e1
      cases e1
      split at h
      · exact h.elim
      · obtain ⟨b', kb, h⟩ := h.getB
        rw [hl] at kb
        cases kb
        exact ⟨.ref a, e2, v, cv, b, fs, rfl, hvu, k1, S.fh _ _ (S.ff _ _ hF), h F G H _ (Same.refl _) (Same.refl _) S (.bl b)⟩
theorem se_xis {y : Str} {p1 p2 : Pos} (T : ExTab X.K X.mg tab fl) (A : ExAt (wd X) fx i x a cls d) (hz : L2N.Zn cls d oe) (hf : ∃ vs, oe.data = .fields vs) (hg : Gl X "isinstance") (hm : X.mg "isinstance" = none) (hgy : Gl X y) (hN : X.N[i]? = some n) (hv : Vis X.env.scope n) (hd : (n == ("__debug__" : Str)) = false := by decide) (hcd : (n == ("__classdict__" : Str)) = false := by decide)
    (hn2 : y ≠ "__name__" := by decide) (hdb2 : (y == ("__debug__" : Str)) = false := by decide)
    (he : starEach [.Name n pe, .Name y p2] X.env = (false, eval (.Name n pe) X.env) :: starEach [.Name y p2] X.env := by rfl) (he2 : starEach [.Name y p2] X.env = (false, eval (.Name y p2) X.env) :: starEach [] X.env := by rfl)
    (hpl : (backTo pos (starEach [.Name y p2] X.env)).any (·.1) = false := by rfl) :
    SE fx (X.suite a ((a, oe) :: pn)) Wx (.Call (.Name "isinstance" p1) [.Name n pe, .Name y p2] [] pos) (mXis tab i x y) :=
  se_xisY (X := X.suite a ((a, oe) :: pn)) List.mem_cons_self T A hz hf hg hm hgy hN hv hd hcd hn2 hdb2 he he2 hpl
end
end Av

/-! try: .. except E as e: .. -/
namespace Av
open PySem PySem.Spec PyProof.Rows L2
def SV.isExn : SV → Bool
  | .exn => true
  | _ => false
def RV.isSlot (i : Nat) : RV → Bool
  | .slot j => j == i
  | _ => false
def offSuite (i : Nat) : RS → RS
  | .nx sd => .nx (sd.set i .no)
  | .bk sd => .bk (sd.set i .no)
  | .ct sd => .ct (sd.set i .no)
  | .ret r sd => if r.isSlot i then .fail else .ret r (sd.set i .no)
  | _ => .fail
def mTry (tab : List ((Str × Str) × Bool)) (y : Str) (i : Nat) (mb : MS) (ms : Xn → MS) : MS := fun sd => match mb sd with
  | .exc x sd1 => match tab.lookup (x.c, y) with
    | some true => if canPut sd1[i]? && !sd1.any SV.isExn then offSuite i (ms x (sd1.set i .exn)) else .fail
    | some false => .exc x sd1
    | none => .fail
  | r => r
section
variable {W : Wd} {fx : Fx} {F G H : Hp} {sd : List SV} {σ : L2.St} {i : Nat} {a : Addr}
theorem canPut_lt (h : canPut sd[i]? = true) : i < sd.length := by
  cases e : sd[i]? with
  | none => rw [e] at h; cases h
  | some s => exact (List.getElem?_eq_some_iff.mp e).1
theorem SR.enter (S : SR W fx F G H sd σ) (hp : canPut sd[i]? = true) (hx : sd.any SV.isExn = false) : SR W { fx with F0 := F, exn := some (i, a) } F G H (sd.set i .exn) (σ.set i (some (.ref a))) where
  ff := Same.refl _
  fn := fun b o e => .inl e
  gg := S.gg
  gn := S.gn
  fg := S.fg
  gh := S.gh
  dom := S.dom
  tup := S.tup
  held := S.held
  len := by rw [List.length_set, List.length_set]; exact S.len
  slot := fun j s e => by
    have hi := canPut_lt hp
    rw [List.getElem?_set] at e
    by_cases hj : i = j
    · subst hj
      rw [if_pos rfl, if_pos hi] at e
      cases e
      exact ⟨a, rfl, by rw [List.getElem?_set, if_pos rfl, if_pos (by rw [← S.len]; exact hi)]⟩
    · rw [if_neg hj] at e
      have q := S.slot j s e
      have es : (σ.set i (some (V.ref a)))[j]? = σ[j]? := by rw [List.getElem?_set, if_neg hj]
      cases s with
      | exn =>
        exfalso
        rw [List.any_eq_false] at hx
        exact hx _ (List.mem_of_getElem? e) rfl
      | no => exact True.intro
      | sh d => obtain ⟨w, h1, h2⟩ := q; exact ⟨w, es.trans h1, h2⟩
      | bor d => obtain ⟨w, h1, h2⟩ := q; exact ⟨w, es.trans h1, h2⟩
      | own d => obtain ⟨w, h1, h2⟩ := q; exact ⟨w, es.trans h1, h2⟩
      | io d => obtain ⟨w, h0, h1, h2⟩ := q; exact ⟨w, h0, es.trans h1, h2⟩
  apart := fun j k s s' b e1 e2 m1 m2 p1 p2 => by
    rw [List.getElem?_set] at e1 e2 p1 p2
    by_cases hj : i = j
    · subst hj; rw [if_pos rfl] at e1; split at e1 <;> cases e1; cases m1
    · by_cases hk : i = k
      · subst hk; rw [if_pos rfl] at e2; split at e2 <;> cases e2; cases m2
      · rw [if_neg hj] at e1 p1
        rw [if_neg hk] at e2 p2
        exact S.apart j k s s' b e1 e2 m1 m2 p1 p2
  free := fun b o hm j s e m p => by
    rw [List.getElem?_set] at e p
    by_cases hj : i = j
    · subst hj; rw [if_pos rfl] at e; split at e <;> cases e; cases m
    · rw [if_neg hj] at e p; exact S.free b o hm j s e m p
theorem SR.exit {F1 : Hp} (S : SR W { fx with F0 := F1, exn := some (i, a) } F G H sd σ) (h1 : Same fx.F0 F1) (h2 : ∀ a o, F1 a = some o → fx.F0 a = some o ∨ fx.H0 a = none) : SR W fx F G H (sd.set i .no) (σ.set i none) where
  ff := h1.trans S.ff
  fn := fun b o e => by
    rcases S.fn b o e with z | z
    · exact h2 b o z
    · exact .inr z
  gg := S.gg
  gn := S.gn
  fg := S.fg
  gh := S.gh
  dom := S.dom
  tup := S.tup
  held := S.held
  len := by rw [List.length_set, List.length_set]; exact S.len
  slot := fun j s e => by
    rw [List.getElem?_set] at e
    by_cases hj : i = j
    · subst hj
      rw [if_pos rfl] at e
      split at e <;> cases e
      exact True.intro
    · rw [if_neg hj] at e
      have q := S.slot j s e
      have es : (σ.set i none)[j]? = σ[j]? := by rw [List.getElem?_set, if_neg hj]
      cases s with
      | exn => obtain ⟨b, k1, k2⟩ := q; cases k1; exact absurd rfl hj
      | no => exact True.intro
      | sh d => obtain ⟨w, h1, h2⟩ := q; exact ⟨w, es.trans h1, h2⟩
      | bor d => obtain ⟨w, h1, h2⟩ := q; exact ⟨w, es.trans h1, h2⟩
      | own d => obtain ⟨w, h1, h2⟩ := q; exact ⟨w, es.trans h1, h2⟩
      | io d => obtain ⟨w, h0, h1, h2⟩ := q; exact ⟨w, h0, es.trans h1, h2⟩
  apart := fun j k s s' b e1 e2 m1 m2 p1 p2 => by
    rw [List.getElem?_set] at e1 e2 p1 p2
    by_cases hj : i = j
    · subst hj; rw [if_pos rfl] at e1; split at e1 <;> cases e1; cases m1
    · by_cases hk : i = k
      · subst hk; rw [if_pos rfl] at e2; split at e2 <;> cases e2; cases m2
      · rw [if_neg hj] at e1 p1
        rw [if_neg hk] at e2 p2
        exact S.apart j k s s' b e1 e2 m1 m2 p1 p2
  free := fun b o hm j s e m p => by
    rw [List.getElem?_set] at e p
    by_cases hj : i = j
    · subst hj; rw [if_pos rfl] at e; split at e <;> cases e; cases m
    · rw [if_neg hj] at e p; exact S.free b o hm j s e m p
end
theorem mem_of_lookup {α β : Type} [BEq α] [LawfulBEq α] {k : α} {b : β} : ∀ {tab : List (α × β)}, tab.lookup k = some b → (k, b) ∈ tab
  | [], h => by simp at h
  | (k', c) :: r, h => by
    rw [List.lookup_cons] at h
    cases hb : (k == k') with
    | true => rw [hb] at h; cases h; rw [← beq_iff_eq.mp hb]; exact List.mem_cons_self
    | false => rw [hb] at h; exact List.mem_cons_of_mem _ (mem_of_lookup h)
section
variable {fx : Fx} {X : Cx} {Wx : WX} {i : Nat} {n y : Str} {tab : List ((Str × Str) × Bool)} {fl : List (Str × Str)} {cv : Value} {body suite : List Stmt} {b₀ : Stmt} {np pos pos' : Pos} {mb : MS} {ms : Xn → MS}
theorem ss_tryAs (T : ExTab X.K X.mg tab fl) (hs : X.stack = X.env :: X.outer) (hf : X.env.frame = some X.env.locals) (hN : X.N.Nodup) (hi : X.N[i]? = some n) (hln : X.env.kindOf n = some .local) (hc : Names X y cv) (tk : L2N.Takes X Wx)
    (hb : ∀ fx W pn xe, L2N.Takes (X.tr pn xe) W → PassesOwn (model X.prog X.w) X.A X.env xe → SSs fx (X.tr pn xe) W body mb)
    (hsu : ∀ fx x a oe cls d pn, L2N.Zn cls d oe → (∃ vs, oe.data = .fields vs) → ExAt (wd X) fx i x a cls d → SSs fx (X.suite a ((a, oe) :: pn)) (fun _ _ _ _ => False) (b₀ :: suite) (ms x)) :
    SS fx X Wx (.Try body [.ExceptHandler (some (.Name y np)) (some n) (b₀ :: suite) pos'] [] [] pos) (mTry tab y i mb ms) := by
  have cb := fun fx W pn xe tk po => Classical.choose_spec (hb fx W pn xe tk po).ex
  have cs := fun fx x a oe cls d pn hz hf hA => Classical.choose_spec (hsu fx x a oe cls d pn hz hf hA).ex
  let tb : WX → TS := fun W D σ H => ∃ fx, ∀ pn xe tk po, Classical.choose (hb fx W pn xe tk po).ex D σ H
  let ts : Addr → Value → Option Addr → TS := fun a cls d D σ H => ∃ x fx, ∃ hA : ExAt (wd X) fx i x a cls d, ∀ oe pn hz hf, Classical.choose (hsu fx x a oe cls d pn hz hf hA).ex D σ H
  refine ⟨_, L2N.ps_try_as (tb := tb) (ts := ts) (Wout := Wx) hs hf hN hi hln hc tk (fun W pn xe tk po => ⟨fun pins s σ H D I q => ?_⟩) (fun a oe cls d pn hz hf => ⟨fun pins s σ H D I q => ?_⟩), fun F G H sd σ D S h => ?_⟩
  · obtain ⟨fx, q⟩ := q
    exact (cb fx W pn xe tk po).1.run pins s σ H D I (q pn xe tk po)
  · obtain ⟨x, fx, hA, q⟩ := q
    exact (cs fx x a oe cls d pn hz hf hA).1.run pins s σ H D I (q oe pn hz hf)
  · refine ⟨fx, fun pn xe tk po => (cb fx _ pn xe tk po).2 F G H sd σ D S ?_⟩
    unfold mTry at h
    cases e : mb sd with
    | nx sd1 => rw [e] at h; exact h
    | ret r sd1 => rw [e] at h; exact h
    | bk sd1 => rw [e] at h; exact h
    | ct sd1 => rw [e] at h; exact h
    | fail => rw [e] at h; exact h
    | exc x sd1 =>
      rw [e] at h
      intro F1 G1 H1 σ1 c d e1 e2 S1 hx
      dsimp only at h
      cases hl : tab.lookup (x.c, y) with
      | none => rw [hl] at h; exact h.elim
      | some b =>
        rw [hl] at h
        obtain ⟨C, cv', hC, xc, hy, _, k1, k2⟩ := T.q x.c y b (mem_of_lookup hl)
        have hcC : c = .ref C := by have := hx.1; rw [show (wd X).mg = X.mg from rfl, hC] at this; exact (Option.some.inj this).symm
        have hcv : cv' = cv := by
          rcases hc.2.2 with z | ⟨z1, z2, _⟩
          · rcases hy with w | ⟨w, _⟩
            · rw [w] at z; exact Option.some.inj z
            · rw [w] at z; cases z
          · rcases hy with w | ⟨_, w⟩
            · rw [w] at z1; cases z1
            · rw [w] at z2; exact Option.some.inj z2
        subst hcv
        refine ⟨b, by rw [hcC]; exact k2, fun hbt a ha => ?_, fun hbf => ?_⟩
        · subst hbt
          dsimp only at h
          split at h
          · rename_i hg
            rw [Bool.and_eq_true, Bool.not_eq_true'] at hg
            have hA : ExAt (wd X) { fx with F0 := F1, exn := some (i, a) } i x a c d := ⟨rfl, hx.1, hx.2⟩
            refine ⟨x, _, hA, fun oe pn hz hf => (cs _ x a oe c d pn hz hf hA).2 F1 G1 H1 _ _ _ (S1.enter hg.1 hg.2) ?_⟩
            have out : ∀ {F2 G2 H2 : Hp} {sd2 : List SV} {σ2 : L2.St}, SR (wd X) { fx with F0 := F1, exn := some (i, a) } F2 G2 H2 sd2 σ2 → SR (wd X) fx F2 G2 H2 (sd2.set i .no) (σ2.set i none) := fun S2 => S2.exit S1.ff S1.fn
            cases em : ms x (sd1.set i .exn) with
            | nx sd2 => rw [em] at h; exact fun F2 G2 H2 σ2 i1 i2 S2 => h F2 G2 H2 _ (e1.trans i1) (e2.trans i2) (out S2)
            | bk sd2 => rw [em] at h; exact fun F2 G2 H2 σ2 i1 i2 S2 => h F2 G2 H2 _ (e1.trans i1) (e2.trans i2) (out S2)
            | ct sd2 => rw [em] at h; exact fun F2 G2 H2 σ2 i1 i2 S2 => h F2 G2 H2 _ (e1.trans i1) (e2.trans i2) (out S2)
            | fail => rw [em] at h; exact h.elim
            | exc x2 sd2 => rw [em] at h; exact h.elim
            | ret r sd2 =>
              rw [em] at h
              unfold offSuite at h
              dsimp only at h
              split at h
              · exact h.elim
              · rename_i hns
                intro F2 G2 H2 σ2 v i1 i2 S2 q
                refine h F2 G2 H2 _ v (e1.trans i1) (e2.trans i2) (out S2) ?_
                cases r with
                | val d' => exact q
                | bval d' => exact q
                | slot j =>
                  have hj : j ≠ i := by simpa [RV.isSlot] using hns
                  show (σ2.set i none)[j]? = _
                  rw [List.getElem?_set, if_neg (Ne.symm hj)]
                  exact q
                | fresh d' =>
                  obtain ⟨b, q1, q2, q3, q4, q5, q6⟩ := q
                  refine ⟨b, q1, q2, q3, q4, fun j s e m p => ?_, q6⟩
                  rw [List.getElem?_set] at e p
                  by_cases hj : i = j
                  · subst hj; rw [if_pos rfl] at e; split at e <;> cases e; cases m
                  · rw [if_neg hj] at e p; exact q5 j s e m p
          · exact h.elim
        · subst hbf
          exact h F1 G1 H1 σ1 c d e1 e2 S1 hx
end
end Av

/-! dicts: keys are ints and texts (t = false), or tuples of these (t = true) -/
namespace Av
open PySem L2
def keyF : D → Option Key
  | .int i => some (.inl i)
  | .str x => some (.inr x)
  | _ => none
def keysF : List D → Option (List Key)
  | [] => some []
  | d :: r => (keyF d).bind fun k => (keysF r).map (k :: ·)
theorem keyF_some {d : D} {k : Key} (h : keyF d = some k) : d = keyD k := by
  cases d <;> first | (cases h; rfl) | cases h
theorem keysF_some : ∀ {ds : List D} {ks : List Key}, keysF ds = some ks → ds = ks.map keyD
  | [], ks, h => by cases h; rfl
  | d :: r, ks, h => by
    unfold keysF at h
    rw [Option.bind_eq_some_iff] at h
    obtain ⟨k, h1, h2⟩ := h
    rw [Option.map_eq_some_iff] at h2
    obtain ⟨ks', h3, rfl⟩ := h2
    rw [keyF_some h1, keysF_some h3]
    rfl
theorem keyD_rep {W : Wd} {H : Hp} {k : Key} {v : V} (r : Rep W H (keyD k) v) : v = kV k := by
  cases k with
  | inl i => exact r.int_inv
  | inr x => exact r.str_inv
theorem keysD_rep {W : Wd} {H : Hp} : ∀ {ks : List Key} {vs : List V}, RepL W H (ks.map keyD) vs → vs = ks.map kV
  | [], vs, r => r.nil_inv
  | k :: ks, vs, r => by
    obtain ⟨v, ws, rfl, h1, h2⟩ := RepL.cons_inv (d := keyD k) (ds := ks.map keyD) r
    rw [keyD_rep h1, keysD_rep h2]
    rfl
/-- a key of the dict's kind -/
def keyOk (t : Bool) (k : D) : Bool := match t, k with
  | false, k => (keyF k).isSome
  | true, .tup xs => (keysF xs).isSome
  | _, _ => false
def dVal (kvs : List (D × D)) (k : D) : Option D := (kvs.find? fun kv => D.eqv kv.1 k).map (·.2)
def dPut (kvs : List (D × D)) (k d : D) : List (D × D) := if kvs.any (fun kv => D.eqv kv.1 k) then kvs.map (fun kv => if D.eqv kv.1 k then (kv.1, d) else kv) else kvs ++ [(k, d)]
theorem eqv_key (a b : Key) : D.eqv (keyD a) (keyD b) = decide (a = b) := by
  cases a <;> cases b <;> simp [keyD, D.eqv] <;> (rw [Bool.eq_iff_iff]; simp)
theorem eqv_keys : ∀ (as bs : List Key), D.eqvs (as.map keyD) (bs.map keyD) = decide (as = bs)
  | [], [] => by simp [D.eqvs]
  | [], _ :: _ => by simp [D.eqvs]
  | _ :: _, [] => by simp [D.eqvs]
  | a :: as, b :: bs => by
    simp only [List.map_cons, D.eqvs, eqv_key, eqv_keys as bs]
    by_cases h1 : a = b <;> by_cases h2 : as = bs <;> simp [h1, h2]
section
variable {κ : Type} [DecidableEq κ] {W : Wd} {F : Hp}
/-- entry by entry; e: how a key is told -/
structure DRel (W : Wd) (F : Hp) (e : κ → D) (ds : List (D × D)) (kvs : List (κ × V)) : Prop where
  n : ds.length = kvs.length
  k : ∀ (i : Nat) d v, ds[i]? = some d → kvs[i]? = some v → d.1 = e v.1
  r : ∀ (i : Nat) d v, ds[i]? = some d → kvs[i]? = some v → Rep W F d.2 v.2
variable {e : κ → D} {ds : List (D × D)} {kvs : List (κ × V)}
theorem DRel.nil : DRel W F e [] ([] : List (κ × V)) := ⟨rfl, fun i d v h => by simp at h, fun i d v h => by simp at h⟩
theorem DRel.cons {p : D × D} {q : κ × V} (h1 : p.1 = e q.1) (h2 : Rep W F p.2 q.2) (h : DRel W F e ds kvs) : DRel W F e (p :: ds) (q :: kvs) :=
  ⟨by simp [h.n], fun i d v e1 e2 => by
    cases i with
    | zero => simp at e1 e2; subst e1; subst e2; exact h1
    | succ i => exact h.k i d v (by simpa using e1) (by simpa using e2), fun i d v e1 e2 => by
    cases i with
    | zero => simp at e1 e2; subst e1; subst e2; exact h2
    | succ i => exact h.r i d v (by simpa using e1) (by simpa using e2)⟩
theorem DRel.nil_inv (h : DRel W F e [] kvs) : kvs = [] := by
  have := h.n
  cases kvs with
  | nil => rfl
  | cons _ _ => simp at this
theorem DRel.cons_inv {p : D × D} (h : DRel W F e (p :: ds) kvs) : ∃ q r, kvs = q :: r ∧ p.1 = e q.1 ∧ Rep W F p.2 q.2 ∧ DRel W F e ds r := by
  cases kvs with
  | nil => have := h.n; simp at this
  | cons q r => exact ⟨q, r, rfl, h.k 0 p q rfl rfl, h.r 0 p q rfl rfl, by have := h.n; simpa using this, fun i d v e1 e2 => h.k (i + 1) d v (by simpa using e1) (by simpa using e2), fun i d v e1 e2 => h.r (i + 1) d v (by simpa using e1) (by simpa using e2)⟩
theorem DRel.val (he : ∀ a b : κ, D.eqv (e a) (e b) = decide (a = b)) {k : κ} : ∀ {ds : List (D × D)} {kvs : List (κ × V)}, DRel W F e ds kvs → match dVal ds (e k), valV kvs k with
    | some d, some v => Rep W F d v
    | none, none => True
    | _, _ => False
  | [], kvs, h => by obtain rfl := h.nil_inv; exact True.intro
  | p :: ds, kvs, h => by
    obtain ⟨q, r, rfl, h1, h2, h3⟩ := h.cons_inv
    have ih := DRel.val he (k := k) h3
    by_cases hk : q.1 = k
    · have e1 : dVal (p :: ds) (e k) = some p.2 := by unfold dVal; rw [List.find?_cons, h1, he, decide_eq_true hk]; rfl
      rw [e1, valV_pos hk]
      exact h2
    · have e1 : dVal (p :: ds) (e k) = dVal ds (e k) := by unfold dVal; rw [List.find?_cons, h1, he, decide_eq_false hk]
      rw [e1, valV_neg hk]
      exact ih
theorem DRel.any (he : ∀ a b : κ, D.eqv (e a) (e b) = decide (a = b)) {k : κ} : ∀ {ds : List (D × D)} {kvs : List (κ × V)}, DRel W F e ds kvs → (ds.any fun kv => D.eqv kv.1 (e k)) = kvs.any fun kv => decide (kv.1 = k)
  | [], kvs, h => by obtain rfl := h.nil_inv; rfl
  | p :: ds, kvs, h => by
    obtain ⟨q, r, rfl, h1, h2, h3⟩ := h.cons_inv
    rw [List.any_cons, List.any_cons, DRel.any he h3, h1, he]
theorem DRel.app {ds' : List (D × D)} {kvs' : List (κ × V)} : ∀ {ds : List (D × D)} {kvs : List (κ × V)}, DRel W F e ds kvs → DRel W F e ds' kvs' → DRel W F e (ds ++ ds') (kvs ++ kvs')
  | [], kvs, h, h' => by obtain rfl := h.nil_inv; exact h'
  | p :: ds, kvs, h, h' => by
    obtain ⟨q, r, rfl, h1, h2, h3⟩ := h.cons_inv
    exact .cons h1 h2 (DRel.app h3 h')
theorem DRel.repl (he : ∀ a b : κ, D.eqv (e a) (e b) = decide (a = b)) {k : κ} {d : D} {v : V} (rv : Rep W F d v) : ∀ {ds : List (D × D)} {kvs : List (κ × V)}, DRel W F e ds kvs → DRel W F e (ds.map fun kv => if D.eqv kv.1 (e k) then (kv.1, d) else kv) (kvs.map fun kv => if kv.1 = k then (kv.1, v) else kv)
  | [], kvs, h => by obtain rfl := h.nil_inv; exact .nil
  | p :: ds, kvs, h => by
    obtain ⟨q, r, rfl, h1, h2, h3⟩ := h.cons_inv
    rw [List.map_cons, List.map_cons]
    have ih := DRel.repl he (k := k) rv h3
    by_cases hk : q.1 = k
    · rw [h1, he, decide_eq_true hk, if_pos rfl, if_pos hk]
      exact .cons rfl rv ih
    · rw [h1, he, decide_eq_false hk, if_neg Bool.false_ne_true, if_neg hk]
      exact .cons h1 h2 ih
theorem DRel.put (he : ∀ a b : κ, D.eqv (e a) (e b) = decide (a = b)) {k : κ} {d : D} {v : V} (rv : Rep W F d v) (h : DRel W F e ds kvs) : DRel W F e (dPut ds (e k) d) (putK kvs k v) := by
  unfold dPut putK
  rw [h.any he]
  split
  · exact h.repl he rv
  · exact h.app (.cons rfl rv .nil)
end
theorem rep_dic {W : Wd} {H : Hp} {t : Bool} {ds : List (D × D)} {v : V} (r : Rep W H (.dic t ds) v) : (t = false ∧ ∃ a kvs, v = .ref a ∧ H a = some (.dK kvs) ∧ DRel W H keyD ds kvs) ∨ (t = true ∧ ∃ a kvs, v = .ref a ∧ H a = some (.dT kvs) ∧ DRel W H (fun ks : List Key => D.tup (ks.map keyD)) ds kvs) := by
  cases r with
  | dic h n k r => exact .inl ⟨rfl, _, _, rfl, h, n, k, r⟩
  | dicT h n k r => exact .inr ⟨rfl, _, _, rfl, h, n, k, r⟩
theorem eqv_tk (a b : List Key) : D.eqv (D.tup (a.map keyD)) (D.tup (b.map keyD)) = decide (a = b) := eqv_keys a b
/-- what a dict that is read holds at a key -/
theorem dget_ok {W : Wd} {H : Hp} {t : Bool} {ds : List (D × D)} {k : D} {v y : V} (r : Rep W H (.dic t ds) v) (rk : Rep W H k y) (hk : keyOk t k = true) : ∃ a o, v = .ref a ∧ DGet H a y o ∧ match dVal ds k, o with
    | some d, some w => Rep W H d w
    | none, none => True
    | _, _ => False := by
  rcases rep_dic r with ⟨rfl, a, kvs, rfl, h1, h2⟩ | ⟨rfl, a, kvs, rfl, h1, h2⟩
  · obtain ⟨k', e⟩ := Option.isSome_iff_exists.mp (show (keyF k).isSome = true from hk)
    have e2 := keyF_some e
    subst e2
    obtain rfl := keyD_rep rk
    exact ⟨a, _, rfl, DGet.k h1, h2.val eqv_key⟩
  · cases k with
    | tup xs =>
      obtain ⟨ks, e⟩ := Option.isSome_iff_exists.mp (show (keysF xs).isSome = true from hk)
      have e2 := keysF_some e
      subst e2
      obtain ⟨b, vs, rfl, hb, rl⟩ := rk.tup_inv'
      obtain rfl := keysD_rep rl
      exact ⟨a, _, rfl, DGet.t h1 hb, h2.val (e := fun ks : List Key => D.tup (ks.map keyD)) eqv_tk (k := ks)⟩
    | _ => cases hk
section
variable {fx : Fx} {X : Cx} {Wx : WX} {e a b c : Expr} {pos : Pos}
def D.dic? : D → Option (Bool × List (D × D))
  | .dic t kvs => some (t, kvs)
  | _ => none
theorem dic?_some {d : D} {p : Bool × List (D × D)} (h : d.dic? = some p) : d = .dic p.1 p.2 := by
  cases d <;> first | (cases h; rfl) | cases h
/-- d[k]: the value, shared or lent as the dict is -/
def mDGet (ma mb : M RV) : M RV := mBind ma fun ra => mBind mb fun rb => mBind (mRead ra.keep) fun x => mBind (mRead rb.keep) fun k => mBind (mGet x.dic?) fun p => if keyOk p.1 k then mBind (mGet (dVal p.2 k)) fun d => fun sd => mGet (elemOf sd ra.keep d) sd else mFail
/-- a part of what r stands for, by what it may be used for -/
theorem RVR.part {W : Wd} {F G H : Hp} {sd : List SV} {σ : L2.St} {r rv : RV} {v : V} {x d : D} (P : V → V → Prop) (S : SR W fx F G H sd σ) (q : RVR W fx F G H sd σ r.keep v) (h : r.keep.d? sd = some x)
    (hs : ∀ J, Same J H → Rep W J x v → ∃ w, P v w ∧ Rep W J d w) (ho : ∀ p, v = .ref p → OwnO W F H p x → ∃ w, P v w ∧ Rep W F d w) (he : elemOf sd r.keep d = some rv) : ∃ w, P v w ∧ RVR W fx F G H sd σ rv w := by
  cases r with
  | val d' =>
    cases h
    obtain ⟨w, h1, h2⟩ := hs F S.fh q
    cases he
    exact ⟨w, h1, h2⟩
  | fresh d' =>
    cases h
    obtain ⟨w, h1, h2⟩ := hs F S.fh q
    cases he
    exact ⟨w, h1, h2⟩
  | bval d' =>
    cases h
    obtain ⟨w, h1, h2⟩ := hs G S.gh q
    refine ⟨w, h1, ?_⟩
    cases he
    split
    · rename_i hi; exact Rep.imm S.tup (h2.keep S.gh) hi
    · exact h2
  | slot i =>
    have q : σ[i]? = some (some v) := q
    have h : (sd[i]?.getD .no).d? = some x := h
    have he : elemOf sd (.slot i) d = some rv := he
    unfold elemOf at he
    dsimp only at he
    cases e : sd[i]? with
    | none => rw [e] at h; cases h
    | some s =>
      rw [e] at h he
      cases s with
      | own d' =>
        cases h
        obtain ⟨a, h1, h2, h3, h4⟩ := S.slot i _ e
        rw [q] at h1; cases h1
        obtain ⟨w, k1, k2⟩ := ho a rfl h4
        cases he
        exact ⟨w, k1, k2⟩
      | io d' =>
        cases h
        obtain ⟨a, _, h1, h2, h4⟩ := S.slot i _ e
        rw [q] at h1; cases h1
        obtain ⟨w, k1, k2⟩ := ho a rfl h4
        cases he
        exact ⟨w, k1, k2⟩
      | sh d' => cases he
      | bor d' => cases he
      | no => cases h
      | exn => cases h
theorem own_dic {W : Wd} {F H : Hp} {p : Addr} {t : Bool} {ds : List (D × D)} (h : OwnO W F H p (.dic t ds)) : (t = false ∧ ∃ kvs, H p = some (.dK kvs) ∧ DRel W F keyD ds kvs) ∨ (t = true ∧ ∃ kvs, H p = some (.dT kvs) ∧ DRel W F (fun ks : List Key => D.tup (ks.map keyD)) ds kvs) := by
  rcases h with ⟨h0, kvs, h1, h2, h3, h4⟩ | ⟨h0, kvs, h1, h2, h3, h4⟩
  · exact .inl ⟨h0, kvs, h1, h2, h3, h4⟩
  · exact .inr ⟨h0, kvs, h1, h2, h3, h4⟩
/-- a key as the heap has it -/
theorem key_at {W : Wd} {H : Hp} {t : Bool} {k : D} {y : V} (rk : Rep W H k y) (hk : keyOk t k = true) : (t = false ∧ ∃ k', k = keyD k' ∧ y = kV k') ∨ (t = true ∧ ∃ (ks : List Key) (b : Addr), k = .tup (ks.map keyD) ∧ y = .ref b ∧ H b = some (.tup (ks.map kV))) := by
  cases t with
  | false =>
    obtain ⟨k', e⟩ := Option.isSome_iff_exists.mp (show (keyF k).isSome = true from hk)
    have e2 := keyF_some e
    subst e2
    exact .inl ⟨rfl, k', rfl, keyD_rep rk⟩
  | true =>
    cases k with
    | tup xs =>
      obtain ⟨ks, e⟩ := Option.isSome_iff_exists.mp (show (keysF xs).isSome = true from hk)
      have e2 := keysF_some e
      subst e2
      obtain ⟨b, vs, rfl, hb, rl⟩ := rk.tup_inv'
      obtain rfl := keysD_rep rl
      exact .inr ⟨rfl, ks, b, rfl, rfl, hb⟩
    | _ => cases hk
/-- what a dict, known as J has it, tells at a key that the heap has -/
theorem drel_get {W : Wd} {F J H : Hp} {t : Bool} {ds : List (D × D)} {k : D} {p : Addr} {y : V} (h : (t = false ∧ ∃ kvs, J p = some (.dK kvs) ∧ DRel W F keyD ds kvs) ∨ (t = true ∧ ∃ kvs, J p = some (.dT kvs) ∧ DRel W F (fun ks : List Key => D.tup (ks.map keyD)) ds kvs)) (s : Same J H)
    (rk : Rep W H k y) (hk : keyOk t k = true) : ∃ o, DGet H p y o ∧ match dVal ds k, o with
    | some d, some w => Rep W F d w
    | none, none => True
    | _, _ => False := by
  rcases h with ⟨rfl, kvs, h1, h2⟩ | ⟨rfl, kvs, h1, h2⟩
  · rcases key_at rk hk with ⟨_, k', rfl, rfl⟩ | ⟨z, _⟩
    · exact ⟨_, DGet.k (s _ _ h1), h2.val eqv_key⟩
    · cases z
  · rcases key_at rk hk with ⟨z, _⟩ | ⟨_, ks, b, rfl, rfl, hb⟩
    · cases z
    · exact ⟨_, DGet.t (s _ _ h1) hb, h2.val (e := fun ks : List Key => D.tup (ks.map keyD)) eqv_tk (k := ks)⟩
theorem rep_dic' {W : Wd} {H : Hp} {t : Bool} {ds : List (D × D)} {v : V} (r : Rep W H (.dic t ds) v) : ∃ a, v = .ref a ∧ ((t = false ∧ ∃ kvs, H a = some (.dK kvs) ∧ DRel W H keyD ds kvs) ∨ (t = true ∧ ∃ kvs, H a = some (.dT kvs) ∧ DRel W H (fun ks : List Key => D.tup (ks.map keyD)) ds kvs)) := by
  rcases rep_dic r with ⟨rfl, a, kvs, rfl, h1, h2⟩ | ⟨rfl, a, kvs, rfl, h1, h2⟩
  · exact ⟨a, rfl, .inl ⟨rfl, kvs, h1, h2⟩⟩
  · exact ⟨a, rfl, .inr ⟨rfl, kvs, h1, h2⟩⟩
theorem elem_ok {F G H : Hp} {sd : List SV} {σ : L2.St} {W : Wd} {r : RV} {v : V} {t : Bool} {ds : List (D × D)} {k : D} {y : V} {d : D} {rv : RV} (S : SR W fx F G H sd σ) (q : RVR W fx F G H sd σ r.keep v) (hx : r.keep.d? sd = some (.dic t ds)) (rk : Rep W H k y) (hk : keyOk t k = true) (hd : dVal ds k = some d) (he : elemOf sd r.keep d = some rv) :
    ∃ a w, v = .ref a ∧ DGet H a y (some w) ∧ RVR W fx F G H sd σ rv w := by
  have key : ∀ {J F' : Hp} {p : Addr}, Same J H → ((t = false ∧ ∃ kvs, J p = some (.dK kvs) ∧ DRel W F' keyD ds kvs) ∨ (t = true ∧ ∃ kvs, J p = some (.dT kvs) ∧ DRel W F' (fun ks : List Key => D.tup (ks.map keyD)) ds kvs)) → ∃ w, DGet H p y (some w) ∧ Rep W F' d w := fun {J F' p} s h => by
    obtain ⟨o, h1, h2⟩ := drel_get h s rk hk
    rw [hd] at h2
    cases o with
    | none => exact h2.elim
    | some w => exact ⟨w, h1, h2⟩
  -- the two parts that may be shared lie below H
  have low : ∀ J, Rep W J (.dic t ds) v → Same J H → ∃ w, (∃ a, v = .ref a ∧ DGet H a y (some w)) ∧ Rep W J d w := fun J r s => by
    obtain ⟨a, rfl, h⟩ := rep_dic' r
    obtain ⟨w, h1, h2⟩ := key s h
    exact ⟨w, ⟨a, rfl, h1⟩, h2⟩
  have own : ∀ p, v = .ref p → OwnO W F H p (.dic t ds) → ∃ w, (∃ a, v = .ref a ∧ DGet H a y (some w)) ∧ Rep W F d w := fun p e ow => by
    obtain ⟨w, h1, h2⟩ := key (Same.refl _) (own_dic ow)
    exact ⟨w, ⟨p, e, h1⟩, h2⟩
  obtain ⟨w, ⟨a, h1, h2⟩, h3⟩ := RVR.part (P := fun v w => ∃ a, v = V.ref a ∧ DGet H a y (some w)) (d := d) S q hx (fun J s r => low J r s) own he
  exact ⟨a, w, h1, h2, h3⟩
theorem se_dget {ma mb : M RV} (hu : X.A.units + 1 < cLine) (ha : SE fx X Wx a ma) (hb : SE fx X Wx b mb) (hs : NoSl b := by intro _ _; rfl) : SE fx X Wx (.Subscript a b pos) (mDGet ma mb) := by
  obtain ⟨ta, pa, qa⟩ := ha.ex
  obtain ⟨tb, pb, qb⟩ := hb.ex
  refine ⟨_, pe_dget hu pa pb hs, fun F G H sd σ Q S h => two qa qb S h fun F1 G1 H1 sd1 ra rb v u e1 e2 S1 r1 r2 h => ?_⟩
  obtain ⟨x, k1, h⟩ := h.read
  obtain ⟨k, k2, h⟩ := h.read
  obtain ⟨p, k3, h⟩ := h.getB
  rw [dic?_some k3] at k1
  split at h
  · rename_i hk
    obtain ⟨d, k4, h⟩ := h.getB
    obtain ⟨rv, k5, hq⟩ := h.get
    obtain ⟨c, w, rfl, h2, h3⟩ := elem_ok S1 r1 k1 (r2.read S1 k2) hk k4 k5
    exact ⟨c, w, rfl, h2, hq F1 G1 H1 w (Same.refl _) (Same.refl _) S1 h3⟩
  · exact h.elim
end
end Av

/-! objects of own classes: fields read and set -/
namespace Av
open PySem L2
/-- the first field of that name -/
def dFld (fs : List (Str × D)) (f : Str) : Option D := fs.lookup f
def dPutF (f : Str) (d : D) : List (Str × D) → List (Str × D)
  | [] => [(f, d)]
  | (g, e) :: r => if g = f then (g, d) :: r else (g, e) :: dPutF f d r
def D.obj? : D → Option (Str × List (Str × D))
  | .obj c fs => some (c, fs)
  | _ => none
theorem obj?_some {d : D} {p : Str × List (Str × D)} (h : d.obj? = some p) : d = .obj p.1 p.2 := by
  cases d <;> first | (cases h; rfl) | cases h
structure ORel (W : Wd) (F : Hp) (ds : List (Str × D)) (fs : List (Str × V)) : Prop where
  n : ds.length = fs.length
  k : ∀ (i : Nat) d v, ds[i]? = some d → fs[i]? = some v → d.1 = v.1
  r : ∀ (i : Nat) d v, ds[i]? = some d → fs[i]? = some v → Rep W F d.2 v.2
section
variable {W : Wd} {F : Hp} {ds : List (Str × D)} {fs : List (Str × V)} {f : Str}
theorem ORel.nil : ORel W F [] [] := ⟨rfl, fun i d v h => by simp at h, fun i d v h => by simp at h⟩
theorem ORel.cons {p : Str × D} {q : Str × V} (h1 : p.1 = q.1) (h2 : Rep W F p.2 q.2) (h : ORel W F ds fs) : ORel W F (p :: ds) (q :: fs) :=
  ⟨by simp [h.n], fun i d v e1 e2 => by
    cases i with
    | zero => simp at e1 e2; subst e1; subst e2; exact h1
    | succ i => exact h.k i d v (by simpa using e1) (by simpa using e2), fun i d v e1 e2 => by
    cases i with
    | zero => simp at e1 e2; subst e1; subst e2; exact h2
    | succ i => exact h.r i d v (by simpa using e1) (by simpa using e2)⟩
theorem ORel.nil_inv (h : ORel W F [] fs) : fs = [] := by
  have := h.n
  cases fs with
  | nil => rfl
  | cons _ _ => simp at this
theorem ORel.cons_inv {p : Str × D} (h : ORel W F (p :: ds) fs) : ∃ q r, fs = q :: r ∧ p.1 = q.1 ∧ Rep W F p.2 q.2 ∧ ORel W F ds r := by
  cases fs with
  | nil => have := h.n; simp at this
  | cons q r => exact ⟨q, r, rfl, h.k 0 p q rfl rfl, h.r 0 p q rfl rfl, by have := h.n; simpa using this, fun i d v e1 e2 => h.k (i + 1) d v (by simpa using e1) (by simpa using e2), fun i d v e1 e2 => h.r (i + 1) d v (by simpa using e1) (by simpa using e2)⟩
theorem ORel.keep {F' : Hp} (e : Same F F') (h : ORel W F ds fs) : ORel W F' ds fs := ⟨h.n, h.k, fun i d v e1 e2 => (h.r i d v e1 e2).keep e⟩
theorem ORel.val {d : D} : ∀ {ds : List (Str × D)} {fs : List (Str × V)}, ORel W F ds fs → dFld ds f = some d → ∃ v, fs.lookup f = some v ∧ Rep W F d v
  | [], fs, h, e => by simp [dFld] at e
  | (g, x) :: ds, fs, h, e => by
    obtain ⟨⟨g', y⟩, r, rfl, h1, h2, h3⟩ := h.cons_inv
    cases h1
    unfold dFld at e
    rw [List.lookup_cons] at e ⊢
    cases hb : (f == g) with
    | true => rw [hb] at e; cases e; exact ⟨y, rfl, h2⟩
    | false => rw [hb] at e; exact ORel.val h3 e
theorem ORel.none : ∀ {ds : List (Str × D)} {fs : List (Str × V)}, ORel W F ds fs → dFld ds f = none → fs.lookup f = none
  | [], fs, h, e => by rw [h.nil_inv]; rfl
  | (g, x) :: ds, fs, h, e => by
    obtain ⟨⟨g', y⟩, r, rfl, h1, h2, h3⟩ := h.cons_inv
    cases h1
    unfold dFld at e
    rw [List.lookup_cons] at e ⊢
    cases hb : (f == g) with
    | true => rw [hb] at e; cases e
    | false => rw [hb] at e; exact ORel.none h3 e
theorem ORel.put {d : D} {v : V} (rv : Rep W F d v) : ∀ {ds : List (Str × D)} {fs : List (Str × V)}, ORel W F ds fs → ORel W F (dPutF f d ds) (putF f v fs)
  | [], fs, h => by rw [h.nil_inv]; exact .cons rfl rv .nil
  | (g, x) :: ds, fs, h => by
    obtain ⟨⟨g', y⟩, r, rfl, h1, h2, h3⟩ := h.cons_inv
    cases h1
    unfold dPutF putF
    by_cases hb : g = f
    · rw [if_pos hb, if_pos hb]; exact .cons rfl rv h3
    · rw [if_neg hb, if_neg hb]; exact .cons rfl h2 (ORel.put rv h3)
theorem rep_obj {c : Str} {v : V} (r : Rep W F (.obj c ds) v) : ∃ a C dx fs, v = .ref a ∧ F a = some (.ins C dx fs) ∧ W.mg c = some (.ref C) ∧ ORel W F ds fs := by
  cases r with
  | obj h g n k r => exact ⟨_, _, _, _, rfl, h, g, n, k, r⟩
theorem own_obj {H : Hp} {c : Str} {p : Addr} (h : OwnO W F H p (.obj c ds)) : ∃ C dx fs, H p = some (.ins C dx fs) ∧ W.mg c = some (.ref C) ∧ ORel W F ds fs := by
  obtain ⟨C, dx, fs, h1, h2, h3, h4, h5⟩ := h
  exact ⟨C, dx, fs, h1, h2, h3, h4, h5⟩
end
/-- a class of the text: nothing of it stands before its instances' fields -/
structure ClsTab (K : PySem.W.Frag) (mg : Str → Option Value) (fl : List (Str × Str)) : Prop where
  f : ∀ c f, (c, f) ∈ fl → ∀ C : Addr, mg c = some (.ref C) → Cls K C ∧ NoAttr K C f
section
variable {fx : Fx} {X : Cx} {Wx : WX} {e o : Expr} {pos pos' : Pos} {fl : List (Str × Str)} {f : Str}
def mFld (fl : List (Str × Str)) (f : Str) (ma : M RV) : M RV := mBind ma fun ra => mBind (mRead ra.keep) fun x => mBind (mGet x.obj?) fun p => if fl.contains (p.1, f) then mBind (mGet (dFld p.2 f)) fun d => fun sd => mGet (elemOf sd ra.keep d) sd else mFail
theorem se_fld {ma : M RV} (T : ClsTab X.K X.mg fl) (ha : SE fx X Wx e ma) (hb : attributeBase e f X.env (eval e X.env) = eval e X.env := by rfl) : SE fx X Wx (.Attribute e f pos) (mFld fl f ma) := by
  obtain ⟨ta, pa, qa⟩ := ha.ex
  refine ⟨_, pe_fld pa hb, fun F G H sd σ Q S h => one qa S h fun F1 G1 H1 sd1 ra v e1 e2 S1 r1 h => ?_⟩
  obtain ⟨x, k1, h⟩ := h.read
  obtain ⟨⟨c, ds⟩, k3, h⟩ := h.getB
  rw [obj?_some k3] at k1
  split at h
  · rename_i hk
    obtain ⟨d, k4, h⟩ := h.getB
    obtain ⟨rv, k5, hq⟩ := h.get
    have hk : (c, f) ∈ fl := by simpa using hk
    have low : ∀ J, Same J H1 → Rep (wd X) J (.obj c ds) v → ∃ w, (∃ a C dx fs, v = .ref a ∧ H1 a = some (.ins C dx fs) ∧ X.mg c = some (.ref C) ∧ fs.lookup f = some w) ∧ Rep (wd X) J d w := fun J s r => by
      obtain ⟨a, C, dx, fs, rfl, h1, h2, h3⟩ := rep_obj r
      obtain ⟨w, h4, h5⟩ := h3.val k4
      exact ⟨w, ⟨a, C, dx, fs, rfl, s _ _ h1, h2, h4⟩, h5⟩
    have own : ∀ p, v = .ref p → OwnO (wd X) F1 H1 p (.obj c ds) → ∃ w, (∃ a C dx fs, v = .ref a ∧ H1 a = some (.ins C dx fs) ∧ X.mg c = some (.ref C) ∧ fs.lookup f = some w) ∧ Rep (wd X) F1 d w := fun p e r => by
      obtain ⟨C, dx, fs, h1, h2, h3⟩ := own_obj r
      obtain ⟨w, h4, h5⟩ := h3.val k4
      exact ⟨w, ⟨p, C, dx, fs, e, h1, h2, h4⟩, h5⟩
    obtain ⟨w, ⟨a, C, dx, fs, rfl, h1, h2, h3⟩, h4⟩ := RVR.part (P := fun v w => ∃ a C dx fs, v = V.ref a ∧ H1 a = some (.ins C dx fs) ∧ X.mg c = some (.ref C) ∧ fs.lookup f = some w) (d := d) S1 r1 k1 low own k5
    obtain ⟨q1, q2⟩ := T.f c f hk C h2
    exact ⟨a, C, dx, fs, w, rfl, h1, q1, q2, h3, hq F1 G1 H1 w (Same.refl _) (Same.refl _) S1 h4⟩
  · exact h.elim
/-- o.f = e, o an own object in slot i -/
def mSetF (fl : List (Str × Str)) (f : Str) (i : Nat) (me : M RV) : MS := mThen (mBind me fun r => mBind (mShare r) fun d => mBind (mOwn i) fun x => mBind (mGet x.obj?) fun p => if fl.contains (p.1, f) && decide (p.2.length < 1000) then mPutOwn i (.obj p.1 (dPutF f d p.2)) else mFail) fun _ => mSkip
theorem ss_setF {i : Nat} {x : Str} {p1 p2 : Pos} {me : M RV} (T : ClsTab X.K X.mg fl) (hN : X.N[i]? = some x) (hv : Vis X.env.scope x) (he : SE fx X Wx e me) (hd : (x == ("__debug__" : Str)) = false := by decide) (hcd : (x == ("__classdict__" : Str)) = false := by decide)
    (hs : swapsWith e (some (.Attribute (.Name x p1) f p2)) pos.line X.env = pure false := by rfl) :
    SS fx X Wx (.Assign [.Attribute (.Name x p1) f p2] e pos) (mSetF fl f i me) := by
  obtain ⟨te, pe, qe⟩ := he.ex
  refine ⟨_, ps_fld (pe_var hN hv hd hcd) pe hs, fun F G H sd σ D S h => ?_⟩
  have h := mThen_po (σ := σ) (β := Unit) (Rl := fun _ _ _ _ _ _ => True) h
  refine one qe S h fun F1 G1 H1 sd1 ra v e1 e2 S1 r1 h => ?_
  obtain ⟨d, sd2, F2, G2, e3, e4, S2, rd, h⟩ := h.share S1 r1
  obtain ⟨x0, s0, p, e0, hs0, hp, ow, hG, h⟩ := h.own S2
  obtain ⟨⟨c, ds⟩, k3, h⟩ := h.getB
  rw [obj?_some k3] at ow
  clear k3
  split at h
  · rename_i hk
    rw [Bool.and_eq_true] at hk
    have hm : (c, f) ∈ fl := by simpa using hk.1
    have hl : ds.length < 1000 := of_decide_eq_true hk.2
    obtain ⟨C, dx, fs, h1, h2, h3⟩ := own_obj ow
    obtain ⟨q1, q2⟩ := T.f c f hm C h2
    obtain ⟨sd4, S4, h⟩ := Po.putOwn (k := fun u => mPure u) S2 e0 hs0 hp (d' := .obj c (dPutF f d ds)) (by
      unfold mBind
      cases em : mPutOwn i (.obj c (dPutF f d ds)) sd2 with
      | ok u s => rw [em] at h; exact h
      | fail => rw [em] at h; exact h
      | exc x s => rw [em] at h; exact h)
    have ow' : OwnO (wd X) F2 (upd H1 p (.ins C dx (putF f v fs))) p (.obj c (dPutF f d ds)) := by
      have h4 := ORel.put (f := f) rd h3
      exact ⟨C, dx, _, upd_same, h2, h4.n, h4.k, h4.r⟩
    refine ⟨.ref p, hp, p, C, dx, fs, rfl, h1, q1, q2, by rw [← h3.n]; exact hl, ?_⟩
    obtain ⟨a, sd', F', G', j1, j2, S', _, h⟩ := h F2 G2 _ () (Same.refl _) (Same.refl _) (S4 _ ow') True.intro
    exact h F' G' _ σ (Same.refl _) (Same.refl _) S'
  · exact h.elim
end
end Av

/-! an object's two dicts, filled from a tuple of triples -/
namespace Av
open PySem PySem.Spec PyProof.Rows L2
def triples : List D → Option (List (Str × D × D))
  | [] => some []
  | .tup [.str n, p, e] :: r => (triples r).map fun t => (n, p, e) :: t
  | _ => none
def fill1 (acc : List (D × D)) (ts : List (Str × D × D)) : List (D × D) := ts.foldl (fun acc t => dPut acc (.str t.1) t.2.1) acc
def fill2 (acc : List (D × D)) (ts : List (Str × D × D)) : List (D × D) := ts.foldl (fun acc t => dPut acc (.str t.1) t.2.2) acc
def mFill (fl : List (Str × Str)) (f1 f2 : Str) (i it : Nat) (js : List Nat) : MS := fun sd =>
  match mOwn i sd, sd[it]?.getD .no with
  | .ok x _, .sh (.tup ds) => match x.obj?, triples ds with
    | some p, some ts => if fl.contains (p.1, f1) && fl.contains (p.1, f2) && decide (p.2.length < 998) && decide (ts.length < sizeLine) && !js.contains i && !js.contains it && decide (f1 ≠ f2) && js.all (fun j => decide (j < sd.length)) then
        match mPutOwn i (.obj p.1 (dPutF f2 (.dic false (fill2 [] ts)) (dPutF f1 (.dic false (fill1 [] ts)) p.2))) sd with
        | .ok _ sd' => .nx (wipeS sd' js)
        | _ => .fail
      else .fail
    | _, _ => .fail
  | _, _ => .fail
structure Trip (W : Wd) (F : Hp) (v : V) (t : Str × D × D) : Prop where
  ex : ∃ a p e, v = .ref a ∧ F a = some (.tup [.str t.1, p, e]) ∧ Rep W F t.2.1 p ∧ Rep W F t.2.2 e
theorem triples_ok {W : Wd} {F : Hp} : ∀ {ds : List D} {vs : List V} {ts : List (Str × D × D)}, RepL W F ds vs → triples ds = some ts → vs.length = ts.length ∧ ∀ (i : Nat) t, ts[i]? = some t → ∃ v, vs[i]? = some v ∧ Trip W F v t
  | [], vs, ts, r, h => by
    cases h
    rw [r.nil_inv]
    exact ⟨rfl, fun i t e => by simp at e⟩
  | d :: ds, vs, ts, r, h => by
    unfold triples at h
    split at h
    · rename_i e; cases e
    · rename_i n p e r' eq
      cases eq
      obtain ⟨v, ws, rfl, h1, h2⟩ := r.cons_inv
      rw [Option.map_eq_some_iff] at h
      obtain ⟨ts', h3, rfl⟩ := h
      obtain ⟨i1, i2⟩ := triples_ok h2 h3
      refine ⟨by simp [i1], fun i t et => ?_⟩
      cases i with
      | zero =>
        simp at et
        subst et
        obtain ⟨a, us, rfl, ha, rl⟩ := h1.tup_inv'
        obtain ⟨u1, us, rfl, q1, rl⟩ := rl.cons_inv
        obtain ⟨u2, us, rfl, q2, rl⟩ := rl.cons_inv
        obtain ⟨u3, us, rfl, q3, rl⟩ := rl.cons_inv
        obtain rfl := rl.nil_inv
        obtain rfl := q1.str_inv
        exact ⟨_, rfl, ⟨a, u2, u3, rfl, ha, q2, q3⟩⟩
      | succ i => exact i2 i t (by simpa using et)
    · cases h
theorem DRel.put_len {α : Type} [DecidableEq α] {k : α} {v : V} {kvs : List (α × V)} : (putK kvs k v).length ≤ kvs.length + 1 := by
  unfold putK
  split
  · simp
  · simp
section
variable {fx : Fx} {X : Cx} {Wx : WX} {fl : List (Str × Str)} {f1 f2 : Str}
/-- the heap within the loop: two dicts, the object that has them; all else as before -/
structure Fil (H : Hp) (p p1 p2 : Addr) (o : HO) (k1 k2 : List (Key × V)) (H' : Hp) : Prop where
  a : H' p1 = some (.dK k1)
  b : H' p2 = some (.dK k2)
  o : H' p = some o
  r : ∀ b, b ≠ p → b ≠ p1 → b ≠ p2 → H' b = H b
theorem Fil.eq {H H' : Hp} {p p1 p2 : Addr} {o : HO} {k1 k2 : List (Key × V)} (h : Fil H p p1 p2 o k1 k2 H') (n1 : p ≠ p1) (n2 : p ≠ p2) (n3 : p1 ≠ p2) : H' = upd (upd (upd H p1 (.dK k1)) p2 (.dK k2)) p o := by
  funext b
  by_cases e : b = p
  · subst e; rw [upd_same]; exact h.o
  · rw [upd_ne e]
    by_cases e2 : b = p2
    · subst e2; rw [upd_same]; exact h.b
    · rw [upd_ne e2]
      by_cases e1 : b = p1
      · subst e1; rw [upd_same]; exact h.a
      · rw [upd_ne e1]; exact h.r b e e1 e2
theorem Fil.put1 {H H' : Hp} {p p1 p2 : Addr} {o : HO} {k1 k2 k : List (Key × V)} (h : Fil H p p1 p2 o k1 k2 H') (n1 : p ≠ p1) (n3 : p1 ≠ p2) : Fil H p p1 p2 o k k2 (upd H' p1 (.dK k)) :=
  ⟨upd_same, by rw [upd_ne (Ne.symm n3)]; exact h.b, by rw [upd_ne n1]; exact h.o, fun b e1 e2 e3 => by rw [upd_ne e2]; exact h.r b e1 e2 e3⟩
theorem Fil.put2 {H H' : Hp} {p p1 p2 : Addr} {o : HO} {k1 k2 k : List (Key × V)} (h : Fil H p p1 p2 o k1 k2 H') (n2 : p ≠ p2) (n3 : p1 ≠ p2) : Fil H p p1 p2 o k1 k (upd H' p2 (.dK k)) :=
  ⟨by rw [upd_ne n3]; exact h.a, upd_same, by rw [upd_ne n2]; exact h.o, fun b e1 e2 e3 => by rw [upd_ne e3]; exact h.r b e1 e2 e3⟩
theorem putF_len (f : Str) (v : V) : ∀ fs : List (Str × V), (putF f v fs).length ≤ fs.length + 1 := length_putF f v
theorem SR.filled {W : Wd} {F G H : Hp} {sd : List SV} {σ : L2.St} {p1 : Addr} {d : List (D × D)} {k : List (Key × V)} (S : SR W fx F G H sd σ) (hp : H p1 = none) (r : DRel W F keyD d k) : ∃ F' G', Same F F' ∧ Same G G' ∧ SR W fx F' G' (upd H p1 (.dK k)) sd σ ∧ Rep W F' (.dic false d) (.ref p1) := by
  have S1 := S.newOwn (o := .dK k) hp (fun _ z => by cases z) (fun _ _ z => by cases z)
  have q := S.fresh (d := .dic false d) (o := .dK k) hp (.inl ⟨rfl, k, upd_same, r.n, r.k, r.r⟩)
  exact RVR.keep (rv := .fresh (.dic false d)) S1 q
theorem mOwn_inv {W : Wd} {F G H : Hp} {sd sd0 : List SV} {σ : L2.St} {i : Nat} {x : D} (S : SR W fx F G H sd σ) (h : mOwn i sd = .ok x sd0) : ∃ s p, sd[i]? = some s ∧ (s = .own x ∨ s = .io x) ∧ σ[i]? = some (some (.ref p)) ∧ OwnO W F H p x ∧ G p = none := by
  unfold mOwn at h
  cases e : sd[i]? with
  | none => rw [e] at h; cases h
  | some s =>
    rw [e] at h
    have q := S.slot i s e
    cases s with
    | own d => cases h; obtain ⟨p, k1, k2, _, k4⟩ := q; exact ⟨_, p, rfl, .inl rfl, k1, k4, k2⟩
    | io d => cases h; obtain ⟨p, _, k1, k2, k4⟩ := q; exact ⟨_, p, rfl, .inr rfl, k1, k4, k2⟩
    | _ => cases h
theorem fill_drel {W : Wd} {F : Hp} {g : Str × D × D → D} {gv : Str × V × V → V} : ∀ {ts : List (Str × D × D)} {us : List (Str × V × V)} {ds : List (D × D)} {ks : List (Key × V)}, DRel W F keyD ds ks → ts.length = us.length → (∀ (i : Nat) t u, ts[i]? = some t → us[i]? = some u → t.1 = u.1 ∧ Rep W F (g t) (gv u)) →
    DRel W F keyD (ts.foldl (fun acc t => dPut acc (.str t.1) (g t)) ds) (us.foldl (fun acc u => putK acc (.inr u.1) (gv u)) ks)
  | [], [], ds, ks, h, _, _ => h
  | [], _ :: _, ds, ks, h, hl, _ => by simp at hl
  | _ :: _, [], ds, ks, h, hl, _ => by simp at hl
  | t :: ts, u :: us, ds, ks, h, hl, hr => by
    obtain ⟨q1, q2⟩ := hr 0 t u rfl rfl
    rw [List.foldl_cons, List.foldl_cons]
    refine fill_drel (g := g) (gv := gv) (ts := ts) (us := us) ?_ (by simpa using hl) fun i t' u' e1 e2 => hr (i + 1) t' u' (by simpa using e1) (by simpa using e2)
    rw [q1]
    exact DRel.put (e := keyD) eqv_key (k := .inr u.1) q2 h
theorem fill_len {gv : Str × V × V → V} : ∀ (us : List (Str × V × V)) (ks : List (Key × V)), (us.foldl (fun acc u => putK acc (.inr u.1) (gv u)) ks).length ≤ ks.length + us.length
  | [], ks => Nat.le_refl _
  | u :: us, ks => by
    rw [List.foldl_cons]
    refine Nat.le_trans (fill_len us _) ?_
    have := DRel.put_len (k := (Sum.inr u.1 : Key)) (v := gv u) (kvs := ks)
    rw [List.length_cons]
    omega
theorem trip_vals {W : Wd} {F : Hp} : ∀ (ts : List (Str × D × D)) (tv : List V), (∀ (i : Nat) t, ts[i]? = some t → ∃ v, tv[i]? = some v ∧ Trip W F v t) →
    ∃ us : List (Str × V × V), ts.length = us.length ∧ ∀ (k : Nat) t u, ts[k]? = some t → us[k]? = some u → t.1 = u.1 ∧ Rep W F t.2.1 u.2.1 ∧ Rep W F t.2.2 u.2.2 ∧ ∃ a, tv[k]? = some (.ref a) ∧ F a = some (.tup [.str u.1, u.2.1, u.2.2])
  | [], tv, _ => ⟨[], rfl, fun k t u e => by simp at e⟩
  | t0 :: ts, [], tr => by obtain ⟨v, q1, _⟩ := tr 0 t0 rfl; simp at q1
  | t0 :: ts, w :: tw, tr => by
    obtain ⟨v, q1, ⟨a, pv, ev, q2, q3, q4, q5⟩⟩ := tr 0 t0 rfl
    obtain ⟨us, i1, i2⟩ := trip_vals ts tw fun k t e => by
      obtain ⟨v, j1, j2⟩ := tr (k + 1) t (by simpa using e)
      exact ⟨v, by simpa using j1, j2⟩
    refine ⟨(t0.1, pv, ev) :: us, by simp [i1], fun k t u e1 e2 => ?_⟩
    cases k with
    | zero =>
      simp at e1 e2 q1
      subst e1; subst e2; subst q1
      exact ⟨rfl, q4, q5, a, by rw [← q2]; rfl, q3⟩
    | succ k =>
      obtain ⟨j1, j2, j3, a', j4, j5⟩ := i2 k t u (by simpa using e1) (by simpa using e2)
      exact ⟨j1, j2, j3, a', by simpa using j4, j5⟩
theorem sss_fill {i it jn jp je : Nat} {x xt y1 y2 y3 : Str} {q1 q2 q3 q4 q5 q6 q7 q8 q9 q10 q11 q12 q13 q14 q15 q16 q17 q18 q19 q20 q21 q22 q23 q24 q25 q26 : Pos} {kk : Nat}
    (hp : PassesOwn (model X.prog X.w) X.A X.env X.xe) (hc : X.calm = true) (hu : X.A.units + 1 < cLine) (T : ClsTab X.K X.mg fl) (nd : X.N.Nodup) (hN : X.N[i]? = some x) (hv : Vis X.env.scope x) (hNt : X.N[it]? = some xt) (hvt : Vis X.env.scope xt)
    (h1 : X.N[jn]? = some y1) (l1 : X.env.scope.names.lookup y1 = some .local) (h2 : X.N[jp]? = some y2) (l2 : X.env.scope.names.lookup y2 = some .local) (h3 : X.N[je]? = some y3) (l3 : X.env.scope.names.lookup y3 = some .local)
    (dx : (x == ("__debug__" : Str)) = false := by decide) (cx : (x == ("__classdict__" : Str)) = false := by decide) (dt : (xt == ("__debug__" : Str)) = false := by decide) (ct : (xt == ("__classdict__" : Str)) = false := by decide)
    (d1 : (y1 == ("__debug__" : Str)) = false := by decide) (c1 : (y1 == ("__classdict__" : Str)) = false := by decide) (d2 : (y2 == ("__debug__" : Str)) = false := by decide) (c2 : (y2 == ("__classdict__" : Str)) = false := by decide)
    (d3 : (y3 == ("__debug__" : Str)) = false := by decide) (c3 : (y3 == ("__classdict__" : Str)) = false := by decide)
    (e12 : jn ≠ jp := by decide) (e13 : jn ≠ je := by decide) (e23 : jp ≠ je := by decide)
    (s1 : swapsWith (.Dict [] [] q3) (some (.Attribute (.Name x q1) f1 q2)) q4.line X.env = pure false := by rfl) (s2 : swapsWith (.Dict [] [] q7) (some (.Attribute (.Name x q5) f2 q6)) q8.line X.env = pure false := by rfl)
    (s3 : swapsWith (.Name y2 q13) (some (.Subscript (.Attribute (.Name x q9) f1 q10) (.Name y1 q11) q12)) q14.line X.env = pure false := by rfl) (s4 : swapsWith (.Name y3 q19) (some (.Subscript (.Attribute (.Name x q15) f2 q16) (.Name y1 q17) q18)) q20.line X.env = pure false := by rfl)
    (b1 : attributeBase (.Name x q9) f1 X.env (eval (.Name x q9) X.env) = eval (.Name x q9) X.env := by rfl) (b2 : attributeBase (.Name x q15) f2 X.env (eval (.Name x q15) X.env) = eval (.Name x q15) X.env := by rfl) :
    SSs fx X Wx [.Assign [.Attribute (.Name x q1) f1 q2] (.Dict [] [] q3) q4, .Assign [.Attribute (.Name x q5) f2 q6] (.Dict [] [] q7) q8,
      .For (.Tuple [.Name y1 q21, .Name y2 q22, .Name y3 q23] kk q24) (.Name xt q25) [.Assign [.Subscript (.Attribute (.Name x q9) f1 q10) (.Name y1 q11) q12] (.Name y2 q13) q14, .Assign [.Subscript (.Attribute (.Name x q15) f2 q16) (.Name y1 q17) q18] (.Name y3 q19) q20] [] q26]
      (mFill fl f1 f2 i it [jn, jp, je]) := by
  have P1 := ps_fld (pos' := q2) (pos := q4) (pe_var (pos := q1) hN hv dx cx) (pe_dnewK (pos := q3)) s1
  have P2 := ps_fld (pos' := q6) (pos := q8) (pe_var (pos := q5) hN hv dx cx) (pe_dnewK (pos := q7)) s2
  have A1 := ps_dput (pos' := q12) (pos := q14) hu (pe_fld (pos := q10) (pe_var (pos := q9) hN hv dx cx) b1) (pe_var (pos := q11) h1 (.inl l1) d1 c1) (pe_var (pos := q13) h2 (.inl l2) d2 c2) s3
  have A2 := ps_dput (pos' := q18) (pos := q20) hu (pe_fld (pos := q16) (pe_var (pos := q15) hN hv dx cx) b2) (pe_var (pos := q17) h1 (.inl l1) d1 c1) (pe_var (pos := q19) h3 (.inl l3) d3 c3) s4
  have TG := pg_tup (k := kk) (pos := q24) hc (pgs_cons (pg_name (pos := q21) nd h1 (.inl l1) (.inr l1)) (pgs_cons (pg_name (pos := q22) nd h2 (.inl l2) (.inr l2)) (pgs_cons (pg_name (pos := q23) nd h3 (.inl l3) (.inr l3)) pgs_nil)))
  have P3 := ps_for (pos := q26) hp hc (pi_tup (pe_var (pos := q25) hNt hvt dt ct)) TG (pss_cons A1 (pss_one A2))
  refine ⟨_, pss_cons P1 (pss_cons P2 (pss_one P3)), fun F G H sd σ D S h => ?_⟩
  unfold mFill at h
  split at h
  rotate_left
  · exact h.elim
  rename_i x0 sd0 ds eo et
  split at h
  rotate_left
  · exact h.elim
  rename_i pq ts eq1 eq2
  obtain ⟨c, fd⟩ := pq
  obtain rfl := obj?_some eq1
  split at h
  rotate_left
  · exact h.elim
  rename_i hg
  simp only [Bool.and_eq_true, decide_eq_true_eq, Bool.not_eq_true', List.contains_eq_mem, decide_eq_false_iff_not, List.mem_cons, List.not_mem_nil, or_false, not_or] at hg
  obtain ⟨⟨⟨⟨⟨⟨⟨g1, g2⟩, g3⟩, g4⟩, g5⟩, g6⟩, g7⟩, g8⟩ := hg
  have hg1 : (c, f1) ∈ fl := by simpa using g1
  have hg2 : (c, f2) ∈ fl := by simpa using g2
  obtain ⟨s0, p, hs0, hs0', hσ, ow, hG⟩ := mOwn_inv S eo
  obtain ⟨C, dx, fs, hH, hC, hO⟩ := own_obj ow
  obtain ⟨kC1, kC2⟩ := T.f c f1 hg1 C hC
  obtain ⟨_, kC3⟩ := T.f c f2 hg2 C hC
  have ht : sd[it]? = some (.sh (.tup ds)) := by
    cases e : sd[it]? with
    | none => rw [e] at et; cases et
    | some z => rw [e] at et; exact congrArg some et
  obtain ⟨vt, hσt, rt⟩ := S.slot it _ ht
  obtain ⟨ta, tv, rfl, hta, rtl⟩ := rt.tup_inv'
  obtain ⟨tl, tr⟩ := triples_ok rtl eq2
  obtain ⟨us, ul, ur⟩ := trip_vals ts tv tr
  have fS : ∀ {b : Addr} {o : HO}, F b = some o → b ≠ p := fun {b o} e z => by
    subst z
    have := S.fg b o e
    rw [hG] at this; cases this
  -- the first dict, the second one
  intro p1 hp1
  have n1 : p ≠ p1 := fun z => by rw [← z, hH] at hp1; cases hp1
  refine ⟨.ref p, hσ, p, C, dx, fs, rfl, by rw [upd_ne n1]; exact hH, kC1, kC2, by rw [← hO.n]; exact Nat.lt_trans g3 (by decide), ?_⟩
  intro p2 hp2
  have n2 : p ≠ p2 := fun z => by rw [← z, upd_same] at hp2; cases hp2
  have n3 : p1 ≠ p2 := fun z => by rw [← z, upd_ne (Ne.symm n1), upd_same] at hp2; cases hp2
  have hp2' : H p2 = none := by rw [upd_ne (Ne.symm n2), upd_ne (Ne.symm n3)] at hp2; exact hp2
  have len1 : (putF f1 (V.ref p1) fs).length < 1000 := by
    have a1 := putF_len f1 (V.ref p1) fs
    have a2 : fd.length = fs.length := hO.n
    have a3 : fd.length < 998 := g3
    omega
  refine ⟨.ref p, hσ, p, C, dx, _, rfl, by rw [upd_ne n2, upd_same], kC1, kC3, len1, ?_⟩
  have low : ∀ {b : Addr} {o : HO}, F b = some o → b ≠ p ∧ b ≠ p1 ∧ b ≠ p2 := fun {b o} e => by
    refine ⟨fS e, fun z => ?_, fun z => ?_⟩
    · subst z; have := S.fh b o e; rw [hp1] at this; cases this
    · subst z; have := S.fh b o e; rw [hp2'] at this; cases this
  have at_ : ∀ {H' : Hp} {k1 k2 : List (Key × V)} {o' : HO} {b : Addr} {o : HO}, Fil H p p1 p2 o' k1 k2 H' → F b = some o → H' b = some o := fun {H' k1 k2 o' b o} f e => by
    obtain ⟨a1, a2, a3⟩ := low e
    rw [f.r b a1 a2 a3]
    exact S.fh b o e
  have f0 : Fil H p p1 p2 (.ins C dx (putF f2 (.ref p2) (putF f1 (.ref p1) fs))) [] [] (upd (upd (upd (upd H p1 (.dK [])) p (.ins C dx (putF f1 (.ref p1) fs))) p2 (.dK [])) p (.ins C dx (putF f2 (.ref p2) (putF f1 (.ref p1) fs)))) :=
    ⟨by rw [upd_ne (Ne.symm n1), upd_ne n3, upd_ne (Ne.symm n1), upd_same], by rw [upd_ne (Ne.symm n2), upd_same], upd_same, fun b e1 e2 e3 => by rw [upd_ne e1, upd_ne e3, upd_ne e1, upd_ne e2]⟩
  generalize upd (upd (upd (upd H p1 (.dK [])) p (.ins C dx (putF f1 (.ref p1) fs))) p2 (.dK [])) p (.ins C dx (putF f2 (.ref p2) (putF f1 (.ref p1) fs))) = H0 at f0 ⊢
  have fl1 : (putF f2 (V.ref p2) (putF f1 (V.ref p1) fs)).lookup f1 = some (.ref p1) := by rw [lookup_putF, if_neg g7, lookup_putF, if_pos rfl]
  have fl2 : (putF f2 (V.ref p2) (putF f1 (V.ref p1) fs)).lookup f2 = some (.ref p2) := by rw [lookup_putF, if_pos rfl]
  generalize hfs : putF f2 (V.ref p2) (putF f1 (V.ref p1) fs) = fs2 at f0 fl1 fl2
  have hju : us.length < sizeLine := by rw [← ul]; exact g4
  refine ⟨.ref ta, hσt, ta, rfl, ⟨tv, SqT.of (at_ f0 hta)⟩, fun k m σ' H' => k + m = tv.length ∧ σ'.length = σ.length ∧ (∀ j, j ∉ [jn, jp, je] → σ'[j]? = σ[j]?) ∧
    Fil H p p1 p2 (.ins C dx fs2) ((us.take k).foldl (fun acc u => putK acc (.inr u.1) u.2.1) []) ((us.take k).foldl (fun acc u => putK acc (.inr u.1) u.2.2) []) H', ⟨tv.length, by omega, rfl, fun _ _ => rfl, by rw [List.take_zero]; exact f0⟩, ?_⟩
  rintro k m σ' H' ⟨w1, w2, w3, w4⟩
  cases m with
  | zero =>
    refine .inl ⟨⟨tv, SqT.of (at_ w4 hta), by omega⟩, ?_⟩
    rw [List.take_of_length_le (by omega)] at w4
    have r1 : DRel (wd X) F keyD (fill1 [] ts) (us.foldl (fun acc u => putK acc (.inr u.1) u.2.1) []) := fill_drel (g := fun t => t.2.1) (gv := fun u => u.2.1) .nil ul fun k t u e1 e2 => by
      obtain ⟨a1, a2, _⟩ := ur k t u e1 e2
      exact ⟨a1, a2⟩
    have r2 : DRel (wd X) F keyD (fill2 [] ts) (us.foldl (fun acc u => putK acc (.inr u.1) u.2.2) []) := fill_drel (g := fun t => t.2.2) (gv := fun u => u.2.2) .nil ul fun k t u e1 e2 => by
      obtain ⟨a1, _, a2, _⟩ := ur k t u e1 e2
      exact ⟨a1, a2⟩
    obtain ⟨F1, G1, e1, e2, S1, p1r⟩ := S.filled hp1 r1
    obtain ⟨F2, G2, e3, e4, S2, p2r⟩ := S1.filled (p1 := p2) (by rw [upd_ne (Ne.symm n3)]; exact hp2') ⟨r2.n, r2.k, fun i d v h1 h2 => (r2.r i d v h1 h2).keep e1⟩
    have ow' : OwnO (wd X) F2 (upd (upd (upd H p1 (.dK (us.foldl (fun acc u => putK acc (.inr u.1) u.2.1) []))) p2 (.dK (us.foldl (fun acc u => putK acc (.inr u.1) u.2.2) []))) p (.ins C dx fs2)) p (.obj c (dPutF f2 (.dic false (fill2 [] ts)) (dPutF f1 (.dic false (fill1 [] ts)) fd))) := by
      have h4 : ORel (wd X) F2 _ _ := ORel.put (f := f2) p2r (ORel.put (f := f1) (p1r.keep e3) ((hO.keep e1).keep e3))
      rw [hfs] at h4
      exact ⟨C, dx, _, upd_same, hC, h4.n, h4.k, h4.r⟩
    rw [← w4.eq n1 n2 n3] at ow'
    rcases hs0' with rfl | rfl
    · unfold mPutOwn at h
      rw [hs0] at h
      have S3 := S2.mutate (o := .ins C dx fs2) hs0 hσ (.inl ⟨_, rfl, rfl⟩) (by rw [← w4.eq n1 n2 n3]; exact ow')
      rw [← w4.eq n1 n2 n3] at S3
      exact h F2 G2 H' σ' (e1.trans e3) (e2.trans e4) (S3.wiped w2 w3)
    · unfold mPutOwn at h
      rw [hs0] at h
      have S3 := S2.mutate (o := .ins C dx fs2) hs0 hσ (.inr ⟨_, rfl, rfl⟩) (by rw [← w4.eq n1 n2 n3]; exact ow')
      rw [← w4.eq n1 n2 n3] at S3
      exact h F2 G2 H' σ' (e1.trans e3) (e2.trans e4) (S3.wiped w2 w3)
  | succ m =>
    have hk : k < us.length := by omega
    have hkt : k < ts.length := by omega
    obtain ⟨_, _, _, a, q1, q2⟩ := ur k ts[k] us[k] (List.getElem?_eq_getElem hkt) (List.getElem?_eq_getElem hk)
    generalize hu0 : us[k] = u at q2
    refine .inr ⟨⟨tv, .ref a, SqT.of (at_ w4 hta), q1⟩, _, fun σ5 H5 h5 => ⟨m, Nat.lt_succ_self m, h5⟩, fun y H5 y5 => ?_⟩
    obtain ⟨rfl, y5⟩ := y5
    have := y5 tv (SqT.of (at_ w4 hta))
    rw [q1] at this; cases this
    refine ⟨a, _, rfl, SqT.of (at_ w4 q2), rfl, ⟨_, _, rfl, ⟨_, _, rfl, ⟨_, _, rfl, rfl, ?_⟩⟩⟩⟩
    have lj : ∀ j, j = jn ∨ j = jp ∨ j = je → j < σ'.length := fun j hj => by
      rw [w2, ← S.len]
      simp only [List.all_cons, List.all_nil, Bool.and_true, Bool.and_eq_true, decide_eq_true_eq] at g8
      rcases hj with rfl | rfl | rfl
      · exact g8.1
      · exact g8.2.1
      · exact g8.2.2
    have ljn := lj jn (.inl rfl)
    have ljp := lj jp (.inr (.inl rfl))
    have lje := lj je (.inr (.inr rfl))
    have gn : (((σ'.set jn (some (.str u.1))).set jp (some u.2.1)).set je (some u.2.2))[jn]? = some (some (.str u.1)) := by
      rw [List.getElem?_set, if_neg (Ne.symm e13), List.getElem?_set, if_neg (Ne.symm e12), List.getElem?_set, if_pos rfl, if_pos ljn]
    have gp : (((σ'.set jn (some (.str u.1))).set jp (some u.2.1)).set je (some u.2.2))[jp]? = some (some u.2.1) := by
      rw [List.getElem?_set, if_neg (Ne.symm e23), List.getElem?_set, if_pos rfl, if_pos (by rw [List.length_set]; exact ljp)]
    have ge : (((σ'.set jn (some (.str u.1))).set jp (some u.2.1)).set je (some u.2.2))[je]? = some (some u.2.2) := by
      rw [List.getElem?_set, if_pos rfl, if_pos (by rw [List.length_set, List.length_set]; exact lje)]
    have go : ∀ j, j ∉ [jn, jp, je] → (((σ'.set jn (some (.str u.1))).set jp (some u.2.1)).set je (some u.2.2))[j]? = σ[j]? := fun j hj => by
      simp only [List.mem_cons, List.not_mem_nil, or_false, not_or] at hj
      rw [List.getElem?_set, if_neg (Ne.symm hj.2.2), List.getElem?_set, if_neg (Ne.symm hj.2.1), List.getElem?_set, if_neg (Ne.symm hj.1)]
      exact w3 j (by simp [hj])
    have gl : (((σ'.set jn (some (.str u.1))).set jp (some u.2.1)).set je (some u.2.2)).length = σ.length := by rw [List.length_set, List.length_set, List.length_set]; exact w2
    generalize ((σ'.set jn (some (.str u.1))).set jp (some u.2.1)).set je (some u.2.2) = σ6 at gn gp ge go gl ⊢
    have gi : σ6[i]? = some (some (.ref p)) := (go i (by simp [g5])).trans hσ
    have z1 : ((us.take k).foldl (fun acc u => putK acc (.inr u.1) u.2.1) ([] : List (Key × V))).length < sizeLine := by
      have := fill_len (gv := fun u => u.2.1) (us.take k) []
      rw [List.length_take, List.length_nil] at this
      omega
    have z2 : ((us.take k).foldl (fun acc u => putK acc (.inr u.1) u.2.2) ([] : List (Key × V))).length < sizeLine := by
      have := fill_len (gv := fun u => u.2.2) (us.take k) []
      rw [List.length_take, List.length_nil] at this
      omega
    have tk : us.take (k + 1) = us.take k ++ [u] := by rw [List.take_succ, List.getElem?_eq_getElem hk, hu0]; rfl
    have w5 := w4.put1 (k := putK ((us.take k).foldl (fun acc u => putK acc (.inr u.1) u.2.1) []) (.inr u.1) u.2.1) n1 n3
    have w6 := w5.put2 (k := putK ((us.take k).foldl (fun acc u => putK acc (.inr u.1) u.2.2) []) (.inr u.1) u.2.2) n2 n3
    refine ⟨u.2.1, gp, .ref p, gi, p, C, dx, fs2, .ref p1, rfl, w4.o, kC1, kC2, fl1, .str u.1, gn, p1, _, rfl, DPut.k (k := .inr u.1) w4.a z1, ?_⟩
    refine ⟨u.2.2, ge, .ref p, gi, p, C, dx, fs2, .ref p2, rfl, w5.o, kC1, kC3, fl2, .str u.1, gn, p2, _, rfl, DPut.k (k := .inr u.1) w5.b z2, ?_⟩
    refine ⟨by omega, gl, go, ?_⟩
    rw [tk, List.foldl_append, List.foldl_append]
    exact w6
end
end Av

/-! constants of the module -/
namespace Av
open PySem PySem.Spec PyProof.Rows L2
section
variable {fx : Fx} {X : Cx} {Wx : WX} {pos : Pos} {x : Str}
theorem se_gint {i : Int} {t : Tok} (hg : Gl X x) (hm : X.mg x = some (.int i t)) (hd : (x == ("__debug__" : Str)) = false := by decide) : SE fx X Wx (.Name x pos) (mC (.int i)) := se_c (pe_glob (v := .int i) hg hm ⟨t, rfl⟩ hd) fun _ => .int i
theorem se_gstr {z : Str} {t : Tok} (hg : Gl X x) (hm : X.mg x = some (.str z t)) (hd : (x == ("__debug__" : Str)) = false := by decide) : SE fx X Wx (.Name x pos) (mC (.str z)) := se_c (pe_glob (v := .str z) hg hm ⟨t, rfl⟩ hd) fun _ => .str z
end
end Av

/-! an object is made -/
namespace Av
open PySem PySem.Spec PyProof.Rows L2
section
variable {fx : Fx} {W : Wd} {F G H : Hp} {sd : List SV} {σ : L2.St} {x : Addr} {d : D}
/-- a new object stands in a slot behind the others -/
theorem SR.ext (S : SR W fx F G H sd σ) (r : RVR W fx F G H sd σ (.fresh d) (.ref x)) : SR W fx F G H (sd ++ [.own d]) (σ ++ [some (.ref x)]) := by
  obtain ⟨a, ea, h1, h2, h3, h4, h5⟩ := r
  cases ea
  have hl := S.len
  have old : ∀ {i : Nat} {s : SV}, (sd ++ [SV.own d])[i]? = some s → (i < sd.length ∧ sd[i]? = some s ∧ (σ ++ [some (V.ref x)])[i]? = σ[i]?) ∨ (i = sd.length ∧ s = .own d ∧ (σ ++ [some (V.ref x)])[i]? = some (some (.ref x))) := fun {i s} e => by
    by_cases hi : i < sd.length
    · rw [List.getElem?_append_left hi] at e
      exact .inl ⟨hi, e, List.getElem?_append_left (by rw [← hl]; exact hi)⟩
    · rw [List.getElem?_append_right (by omega)] at e
      have : i - sd.length = 0 := by
        by_cases z : i - sd.length = 0
        · exact z
        · rw [List.getElem?_eq_none (by simp; omega)] at e; cases e
      have hi2 : i = sd.length := by omega
      subst hi2
      simp at e
      exact .inr ⟨rfl, e.symm, by rw [hl]; simp⟩
  refine ⟨S.toHR, by simp [hl], fun i s e => ?_, fun i j s s' a e1 e2 m1 m2 p1 p2 => ?_, fun a o hm i s e m p => ?_⟩
  · rcases old e with ⟨_, e1, es⟩ | ⟨_, rfl, es⟩
    · have q := S.slot i s e1
      cases s with
      | no => exact q
      | exn => obtain ⟨w, h0, h1⟩ := q; exact ⟨w, h0, es.trans h1⟩
      | sh d => obtain ⟨w, h1, h2⟩ := q; exact ⟨w, es.trans h1, h2⟩
      | bor d => obtain ⟨w, h1, h2⟩ := q; exact ⟨w, es.trans h1, h2⟩
      | own d => obtain ⟨w, h1, h2⟩ := q; exact ⟨w, es.trans h1, h2⟩
      | io d => obtain ⟨w, h0, h1, h2⟩ := q; exact ⟨w, h0, es.trans h1, h2⟩
    · exact ⟨x, es, h1, h2, h3⟩
  · rcases old e1 with ⟨_, k1, es1⟩ | ⟨i1, rfl, es1⟩
    · rcases old e2 with ⟨_, k2, es2⟩ | ⟨i2, rfl, es2⟩
      · exact S.apart i j s s' a k1 k2 m1 m2 (es1.symm.trans p1) (es2.symm.trans p2)
      · rw [es2] at p2; cases p2
        exact absurd (es1.symm.trans p1) (h4 i s k1 m1)
    · rcases old e2 with ⟨_, k2, es2⟩ | ⟨i2, rfl, es2⟩
      · rw [es1] at p1; cases p1
        exact absurd (es2.symm.trans p2) (h4 j s' k2 m2)
      · omega
  · rcases old e with ⟨_, k1, es1⟩ | ⟨i1, rfl, es1⟩
    · exact S.free a o hm i s k1 m (es1.symm.trans p)
    · rw [es1] at p; cases p
      exact h5 o hm
theorem SR.unext (S : SR W fx F G H (sd ++ [.own d]) (σ ++ [some (.ref x)])) : SR W fx F G H sd σ ∧ RVR W fx F G H sd σ (.fresh d) (.ref x) := by
  have hl : sd.length = σ.length := by have := S.len; simpa using this
  have up : ∀ {i : Nat} {s : SV}, sd[i]? = some s → (sd ++ [SV.own d])[i]? = some s ∧ (σ ++ [some (V.ref x)])[i]? = σ[i]? ∧ i < sd.length := fun {i s} e => by
    have hi := (List.getElem?_eq_some_iff.mp e).1
    exact ⟨by rw [List.getElem?_append_left hi]; exact e, List.getElem?_append_left (by rw [← hl]; exact hi), hi⟩
  have last : (sd ++ [SV.own d])[sd.length]? = some (.own d) := by simp
  have lastσ : (σ ++ [some (V.ref x)])[sd.length]? = some (some (.ref x)) := by rw [hl]; simp
  obtain ⟨a, q1, q2, q3, q4⟩ := S.slot _ _ last
  rw [lastσ] at q1; cases q1
  refine ⟨⟨S.toHR, hl, fun i s e => ?_, fun i j s s' a e1 e2 m1 m2 p1 p2 => ?_, fun a o hm i s e m p => ?_⟩, x, rfl, q2, q3, q4, fun i s e m p => ?_, fun o hm => S.free x o hm _ _ last rfl lastσ⟩
  · obtain ⟨k1, es, _⟩ := up e
    have q := S.slot i s k1
    have es := es.symm
    cases s with
    | no => exact q
    | exn => obtain ⟨w, h0, h1⟩ := q; exact ⟨w, h0, es.trans h1⟩
    | sh d => obtain ⟨w, h1, h2⟩ := q; exact ⟨w, es.trans h1, h2⟩
    | bor d => obtain ⟨w, h1, h2⟩ := q; exact ⟨w, es.trans h1, h2⟩
    | own d => obtain ⟨w, h1, h2⟩ := q; exact ⟨w, es.trans h1, h2⟩
    | io d => obtain ⟨w, h0, h1, h2⟩ := q; exact ⟨w, h0, es.trans h1, h2⟩
  · obtain ⟨k1, es1, _⟩ := up e1
    obtain ⟨k2, es2, _⟩ := up e2
    exact S.apart i j s s' a k1 k2 m1 m2 (es1.trans p1) (es2.trans p2)
  · obtain ⟨k1, es1, _⟩ := up e
    exact S.free a o hm i s k1 m (es1.trans p)
  · obtain ⟨k1, es1, hi⟩ := up e
    have := S.apart i sd.length s _ x k1 last m rfl (es1.trans p) lastσ
    omega
end
section
variable {X : Cx} {CX : CXT} {k : Nat} {f C : Addr} {fd : FuncData} {ps : List Str} {sp : Sp} {E : L2.St → XK} {x : Str} {p pos : Pos} {e : Expr} {es : List Expr} {t : TA}
theorem run_makeS {pins : List (Addr × Obj)} {σ : L2.St} {H : Hp} {s : Shared} {Q : VK} {us : List Value} {vs : List V} (M : Mk X.K C f) (F : FnOk X.prog X.w X.K X.mg X.base CX k f fd ps sp) (hr : Room (k + 1) X.A) (hb : Binds X.K fd ps []) (hx : PassesAt CX X σ (E σ)) (I : Inv X pins σ H s) (r : Vals vs us)
    (h : ∀ x dx, H x = none → H dx = none → dx ≠ x → sp (.ref x :: vs) (upd (upd H dx (.own x)) x (.ins C dx [])) (fun v H2 => v = .non ∧ Q (.ref x) H2) (E σ)) :
    wpAny (model X.prog X.w) X.A (call (.ref C) us) (EP X pins σ Q) X.xe s := by
  have hq := h (s.heap.objs.size + 1) s.heap.objs.size (I.hok.fresh (Nat.le_succ _)) (I.hok.fresh (Nat.le_refl _)) (Nat.ne_of_lt (Nat.lt_succ_self _))
  have I2 := Inv.made (C := C) I
  have r2 : Vals (V.ref (s.heap.objs.size + 1) :: vs) (Value.ref (s.heap.objs.size + 1) :: us) := .cons rfl r
  have hl : (Value.ref (s.heap.objs.size + 1) :: us).length = ps.length := by
    have e := r2.length
    rw [F.len _ _ _ _ hq] at e
    exact e.symm
  have b := hb _ (Value.ref (s.heap.objs.size + 1) :: us) I2.kIn (by rw [List.append_nil]; exact hl)
  rw [List.append_nil] at b
  have E0 := I2.env0.make C us []
  refine wpAny_call (make_map (f := f) I.kIn M.makes M.init (beq_iff_eq.mp M.fn) (codeAny_mono (F.run _ X.stack _ _ ⟨Value.ref (s.heap.objs.size + 1) :: us, []⟩ (Value.ref (s.heap.objs.size + 1) :: us) _ _ (E σ) (hr.make C us []) E0 b r2 hq) fun r s' hq' => ?_))
  cases r with
  | error e => exact hx pins _ _ e s' I2 hq'
  | ok fl =>
    cases fl with
    | ret u =>
      obtain ⟨v, H', I3, rv, ev, q3⟩ := I2.after hq'
      subst ev
      exact ⟨rv, ⟨V.ref (s.heap.objs.size + 1), H', I3, rfl, q3⟩⟩
    | next => exact False.elim hq'
    | brk => exact False.elim hq'
    | cont => exact False.elim hq'
def tMakeS (C : Addr) (sp : Sp) (E : L2.St → XK) (t : TA) : TE := fun σ H Q => t σ H fun vs H1 => ∀ x dx, H1 x = none → H1 dx = none → dx ≠ x →
  sp (.ref x :: vs) (upd (upd H1 dx (.own x)) x (.ins C dx [])) (fun v H2 => v = .non ∧ Q (.ref x) H2) (E σ)
theorem pe_makeS (M : Mk X.K C f) (F : FnOk X.prog X.w X.K X.mg X.base CX k f fd ps sp) (hr : Room (k + 1) X.A) (hg : Gl X x) (hm : X.mg x = some (.ref C)) (hb : Binds X.K fd ps []) (hx : ∀ σ, PassesAt CX X σ (E σ))
    (ha : PA X (e :: es) t) (hdb : (x == ("__debug__" : Str)) = false := by decide) (he : starEach (e :: es) X.env = (false, eval e X.env) :: starEach es X.env := by rfl) (hpl : (backTo pos (starEach es X.env)).any (·.1) = false := by rfl) :
    PE X (.Call (.Name x p) (e :: es) [] pos) (tMakeS C sp E t) := by
  refine ⟨fun pins s σ H Q I h => ?_⟩
  refine wpAny_Call_Name_kw (ld_glob I hg hm ?_ hdb)
  refine PySem.W.callWith_K (h₀ := X.base) I.ok.mod.kin M.kp (thn (ha.run pos pins s σ H _ I h) fun us s1 ⟨vs, H1, I1, r, q⟩ => ⟨I1.kIn, ?_⟩) he hpl
  exact run_makeS M F hr hb (hx σ) I1 r q
end
end Av

/-! an object is made: by data -/
namespace Av
open PySem PySem.Spec PyProof.Rows L2
def mMake (c : Str) (mf : MF) (ma : M (List RV)) : M RV := mBind ma fun rs => fun sd => match passAll sd [] 0 rs with
  | some svs => match mf (.io (.obj c []) :: svs) with
    | .ok (.val .non) [d] => .ok (.fresh d) sd
    | .exc x [_] => .exc x sd
    | _ => .fail
  | none => .fail
theorem passOne_ext {sd : List SV} {l : List SV} {r : RV} {s : SV} (h : passOne sd false r = some s) : passOne (sd ++ l) false r = some s := by
  unfold passOne at h ⊢
  cases r with
  | slot j =>
    dsimp only at h ⊢
    cases e : sd[j]? with
    | none => rw [e] at h; cases h
    | some t =>
      have hj := (List.getElem?_eq_some_iff.mp e).1
      rw [List.getElem?_append_left hj, e]
      rw [e] at h
      exact h
  | _ => exact h
theorem passAll_ext {sd l : List SV} {ios : List Nat} : ∀ {rs : List RV} {n m : Nat} {svs : List SV}, (∀ i, ios.contains (m + i) = false) → passAll sd [] n rs = some svs → passAll (sd ++ l) ios m rs = some svs
  | [], n, m, svs, hi, h => h
  | r :: rs, n, m, svs, hi, h => by
    unfold passAll at h ⊢
    rw [show ios.contains m = false from hi 0]
    rw [show ([] : List Nat).contains n = false from rfl] at h
    cases e1 : passOne sd false r with
    | none => rw [e1] at h; cases h
    | some s =>
      rw [e1] at h
      rw [passOne_ext e1]
      cases e2 : passAll sd [] (n + 1) rs with
      | none => rw [e2] at h; cases h
      | some ss =>
        rw [e2] at h
        rw [passAll_ext (m := m + 1) (fun i => by rw [show m + 1 + i = m + (1 + i) by omega]; exact hi (1 + i)) e2]
        exact h
theorem wb_last {sd : List SV} {o d : D} : wb ([sd.length].zip [d]) 0 (sd ++ [.own o]) = sd ++ [.own d] := by
  apply List.ext_getElem?
  intro i
  rw [wb_get, Nat.zero_add]
  by_cases hi : i < sd.length
  · rw [List.getElem?_append_left hi, List.getElem?_append_left hi, List.getElem?_eq_getElem hi]
    show some (updSV [(sd.length, d)] i sd[i]) = _
    unfold updSV
    rw [List.lookup_cons]
    rw [show (i == sd.length) = false from by simp; omega]
    rfl
  · by_cases h2 : i = sd.length
    · subst h2
      simp [updSV, List.lookup_cons]
    · rw [List.getElem?_eq_none (by simp; omega), List.getElem?_eq_none (by simp; omega)]
      rfl
section
variable {fx : Fx} {X : Cx} {Wx : WX} {e : Expr} {pos : Pos}
theorem make_sem {C : Addr} {mf : MF} {x : Str} {ma : M (List RV)} {t : TA} (hm : X.mg x = some (.ref C)) (q : ∀ F G H sd σ Q, SR (wd X) fx F G H sd σ → Po (wd X) fx F G σ Wx (fun F G H sd rs vs => RVRs (wd X) fx F G H sd σ rs vs) Q (ma sd) → t σ H Q)
    {F G H : Hp} {sd : List SV} {σ : L2.St} {Q : VK} (S : SR (wd X) fx F G H sd σ) (h : Po (wd X) fx F G σ Wx (RlE (wd X) fx σ) Q (mMake x mf ma sd)) : tMakeS C (spD (wd X) [0] mf) (WE Wx) t σ H Q := by
  refine args q S h fun F1 G1 H1 sd1 rs vs e1 e2 S1 r1 h => ?_
  cases e3 : passAll sd1 [] 0 rs with
  | none => rw [e3] at h; exact h.elim
  | some svs =>
    rw [e3] at h
    dsimp only at h
    intro y dx hy hdx ne
    have hy' : upd H1 dx (.own y) y = none := by rw [upd_ne (Ne.symm ne)]; exact hy
    have S1' := S1.newOwn (o := .own y) hdx (fun _ z => by cases z) (fun _ _ z => by cases z)
    have S2 := S1'.newOwn (o := .ins C dx []) hy' (fun _ z => by cases z) (fun _ _ z => by cases z)
    have r2 := S1'.fresh (d := .obj x []) (o := .ins C dx []) hy' ⟨C, dx, [], upd_same, hm, rfl, fun i d v z => by simp at z, fun i d v z => by simp at z⟩
    have S3 := S2.ext r2
    have hl := S1.len
    have rs3 : RVRs (wd X) fx F1 G1 (upd (upd H1 dx (.own y)) y (.ins C dx [])) (sd1 ++ [.own (.obj x [])]) (σ ++ [some (.ref y)]) (.slot sd1.length :: rs) (.ref y :: vs) := by
      refine ⟨by simp [r1.1], fun i r v k1 k2 => ?_⟩
      cases i with
      | zero =>
        simp at k1 k2
        subst k1; subst k2
        show (σ ++ [some (V.ref y)])[sd1.length]? = _
        rw [hl]; simp
      | succ i =>
        have k3 := r1.2 i r v (by simpa using k1) (by simpa using k2)
        cases r with
        | val d => exact k3
        | bval d => exact k3
        | fresh d => exact k3
        | slot j =>
          have k3 : σ[j]? = some (some v) := k3
          show (σ ++ [some (V.ref y)])[j]? = _
          rw [List.getElem?_append_left (List.getElem?_eq_some_iff.mp k3).1]
          exact k3
    have pa : passAll (sd1 ++ [.own (.obj x [])]) [0] 0 (.slot sd1.length :: rs) = some (.io (.obj x []) :: svs) := by
      unfold passAll
      rw [passAll_ext (ios := [0]) (m := 0 + 1) (fun i => by simp) e3]
      have : passOne (sd1 ++ [.own (.obj x [])]) true (.slot sd1.length) = some (.io (.obj x [])) := by
        unfold passOne
        simp
      rw [show ([0] : List Nat).contains 0 = true from rfl, this]
      rfl
    have io : ioSlots (.slot sd1.length :: rs) [0] = some [sd1.length] := rfl
    have ap : apartOk (.slot sd1.length :: rs) [0] [sd1.length] = true := by
      unfold apartOk
      rw [Bool.and_eq_true]
      refine ⟨by simp, List.all_eq_true.mpr fun i hi => ?_⟩
      cases i with
      | zero => rfl
      | succ i =>
        rw [List.getElem?_cons_succ]
        cases er : rs[i]? with
        | none => simp
        | some r =>
          cases r with
          | slot j =>
            obtain ⟨pl, pg⟩ := passAll_get e3
            have hi2 : i < svs.length := by rw [pl]; exact (List.getElem?_eq_some_iff.mp er).1
            obtain ⟨r', g1, g2⟩ := pg i svs[i] (List.getElem?_eq_getElem hi2)
            rw [er] at g1; cases g1
            have hj : j ≠ sd1.length := fun z => by
              subst z
              have g2 : passOne sd1 false (.slot sd1.length) = some svs[i] := g2
              unfold passOne at g2
              simp at g2
            simp [hj]
          | _ => simp
    obtain ⟨pin, P⟩ := pins_there S3 rs3 pa io
    obtain ⟨k1, k2, k3⟩ := call_start S3 rs3 pa io ap P
    refine ⟨F1, lent _ pin, pin, _, k1, k2, k3, ?_⟩
    cases em : mf (.io (.obj x []) :: svs) with
    | fail => rw [em] at h; exact h.elim
    | ok r outs =>
      rw [em] at h
      intro v F2 G2 H2 hr2 rr ho
      obtain ⟨S4, f1, f2, f3⟩ := call_end S3 io ap P (by decide) hr2 ho
      split at h
      · rename_i d eq
        cases eq
        rw [wb_last] at S4
        obtain ⟨S5, r5⟩ := S4.unext
        exact ⟨rr.non_inv, h F2 _ H2 (.ref y) f1 f2 S5 r5⟩
      · rename_i eq; cases eq
      · exact h.elim
    | exc xn outs =>
      rw [em] at h
      intro c d F2 G2 H2 hr2 rr ho
      obtain ⟨S4, f1, f2, f3⟩ := call_end S3 io ap P (by decide) hr2 ho
      split at h
      · rename_i eq; cases eq
      · rename_i d' eq
        cases eq
        rw [wb_last] at S4
        obtain ⟨S5, r5⟩ := S4.unext
        exact h F2 _ H2 c d f1 f2 S5 rr
      · exact h.elim
theorem se_make {k : Nat} {f C : Addr} {fd : FuncData} {ps : List Str} {mf : MF} {x : Str} {p : Pos} {es : List Expr} {ma : M (List RV)} (M : Mk X.K C f) (Fk : FnOk X.prog X.w X.K X.mg X.base (L2N.CX X.prog X.w) k f fd ps (spD (wd X) [0] mf)) (tk : L2N.Takes X Wx) (hr : Room (k + 1) X.A) (hg : Gl X x) (hm : X.mg x = some (.ref C)) (hb : Binds X.K fd ps [])
    (ha : SA fx X Wx (e :: es) ma) (hdb : (x == ("__debug__" : Str)) = false := by decide) (he : starEach (e :: es) X.env = (false, eval e X.env) :: starEach es X.env := by rfl) (hpl : (backTo pos (starEach es X.env)).any (·.1) = false := by rfl) :
    SE fx X Wx (.Call (.Name x p) (e :: es) [] pos) (mMake x mf ma) := by
  obtain ⟨t, pt, q⟩ := ha.ex
  exact ⟨_, pe_makeS M Fk hr hg hm hb (fun σ => pass_at tk σ) pt hdb he hpl, fun F G H sd σ Q S h => make_sem hm q S h⟩
end
end Av

/-! a def called within an except suite, with the exception as its one argument -/
namespace Av
open PySem PySem.Spec PyProof.Rows L2 L2H
/-- what such a def promises while the exception of p is handled -/
def RunP (P : Program) (w : World) (K : PySem.W.Frag) (mg : Str → Option Value) (base : Heap) (CX : CXT) (k : Nat) (f : Addr) (fd : FuncData) (ps : List Str) (sp : Sp) (p : Addr × Obj) : Prop :=
  ∀ (A : Around) (outer : List Env) (s : Shared) (H : Hp) (args : Args) (us : List Value) (vs : List V) (Q : VK) (E : XK), RoomH k A → Hot1 A p → L2H.PinOk outer H s p → Env0 P w K mg base A outer s H → BindsTo s fd args (ps.zip us) → Vals vs us → sp vs H Q E →
    codeAny (model P w) A (.call (.ref f) args) (CR CX outer P w H s Q E) s
theorem run_ofP {CX : CXT} {P : Program} {w : World} {K : PySem.W.Frag} {mg : Str → Option Value} {base : Heap} {k : Nat} {f : Addr} {name qual : Str} {params : Arguments} {body : List Stmt} {scope : Scope} {dV kV doc pm cdv ct oc : Value} {an od : Option Addr}
    {osl : Array (Option Value)} {N ps : List Str} {sp : Sp} {p : Addr × Obj} (lk : K.lookup f = some ⟨oc, od, .func (PySem.W.fnOf name qual params body scope dV kV doc pm an cdv ct), osl⟩) (hcd : PySem.W.codeIn K cdv qual = true) (S : FnScope N ps scope)
    (len : ∀ vs H Q E, sp vs H Q E → vs.length = ps.length)
    (hbody : ∀ (A : Around) (outer : List Env) (s : Shared) (H : Hp) (vs : List V) (Q : VK) (E : XK), Hot1 A p → RoomH k (A.deeper (envOfC qual scope s.heap.objs.size f cdv)) → sp vs H Q E →
      ∃ t, PSs (cxH CX P w K mg base N qual scope f cdv A outer s H E p) body t ∧ t { nx := fun _ H' => Q .non H', rt := Q } (L2.start N vs) H) :
    RunP P w K mg base CX (k + 1) f (PySem.W.fnOf name qual params body scope dV kV doc pm an cdv ct) ps sp p := by
  intro A outer s H args us vs Q E hr hot hpin e0 hb r hsp
  have hl := len _ _ _ _ hsp; have KX : K.In s.heap := e0.mod.kin.keeps fun b o e => (e0.bs b o e).1
  have lim : s.heap.NoLimit := e0.mod.nolimit.keeps fun b o e => (e0.bs b o e).1; have hps := S.par
  have hkind : ∀ y ∈ ps.zip us, scope.names.lookup y.1 = some .local ∨ (scope.names.lookup y.1 = some .cell ∧ ((cellsFrom (s.heap.objs.size + 1) scope.names []).lookup y.1).isSome = true) := by
    rintro ⟨n, v⟩ hy
    rcases hps n (List.of_mem_zip hy).1 with q | q; · exact .inl q
    exact .inr ⟨q, PySem.W.cellsFrom_some _ _ _ (.inl q)⟩
  refine codeAny_call_function hr.depth (KX _ _ lk) rfl S.co S.gen rfl (PySem.W.codeRec_of KX hcd) (hb _ _ _ _ (wpAny_newFunctionEnv_cells S.kind hkind fun env he s1 x => ?_))
  subst he; refine ⟨lim.keeps x.toInCall.keep, codeAny_func ?_⟩
  obtain ⟨t, ht, hq⟩ := hbody A outer s H vs Q E hot (hr.deeper _) hsp; have I := inv_startH (CX := CX) (E := E) (qual := qual) (f := f) (cd := cdv) S hpin e0 hl r x
  refine wpAny_mono (ht.run [] s1 (L2.start N vs) H _ I hq) (fun fl s' hs => ?_) fun e s' hs => hs
  have fin : ∀ {σ' : L2.St} {H' : Hp} {v : V} {u : Value}, Inv (cxH CX P w K mg base N qual scope f cdv A outer s H E p) [] σ' H' s' → RelV v u → Q v H' → CE outer P w H s Q u s' := by
    intro σ' H' v u J rv q; exact ⟨v, H', J.os, J.bare, J.base, J.hok, rv, q⟩
  cases fl with
  | ret u => obtain ⟨v, σ', H', J, rv, q⟩ := hs; exact fin J rv q
  | next => obtain ⟨σ', H', J, q⟩ := hs; exact fin (v := V.non) (u := Value.none) J rfl q
  | brk => obtain ⟨_, _, _, q⟩ := hs; exact False.elim q
  | cont => obtain ⟨_, _, _, q⟩ := hs; exact False.elim q
/-- its promise, by data: the exception at a is x -/
def spX (W : Wd) (a : Addr) (cls : Value) (d : Option Addr) (mf : Xn → MF) : Sp := fun vs H Q _ => vs = [.ref a] ∧ ∃ (F : Hp) (x : Xn), Same F H ∧ (∀ b xs, Rd H b (.tup xs) → F b = H b) ∧ W.mg x.c = some cls ∧
  (x.fs = [] ∨ ∃ dd fs, d = some dd ∧ F dd = some (.xd fs) ∧ fs.map (·.1) = x.fs.map (·.1) ∧ RepL W F (x.fs.map (·.2)) (fs.map (·.2))) ∧ match mf x [.exn] with
  | .ok r [] => ∀ v F' G' H', HR ⟨H, F, H, [], [], some (0, a)⟩ F' G' H' → ResR W F' G' H' H r v → Q v H'
  | _ => False
section
variable {P : Program} {w : World} {K : PySem.W.Frag} {mg : Str → Option Value} {base : Heap}
theorem defX_ok {x qual : Str} {st : Stmt} {f : Addr} {fd : FuncData} {N : List Str} {ex : Str} {k : Nat} {body : Xn → MS} {p : Addr × Obj} {cls : Value} {d : Option Addr} (F : Fun K x qual st f fd) (S : FnScope N [ex] (defScope st))
    (hbody : ∀ (cdv : Value) (A : Around) (outer : List Env) (s : Shared) (H : Hp) (E : XK) (fx : Fx) (x : Xn), RoomH k (A.deeper (envOfC qual (defScope st) s.heap.objs.size f cdv)) → ExAt ⟨K, mg⟩ fx 0 x p.1 cls d →
      SSs fx (cxH (L2N.CX P w) P w K mg base N qual (defScope st) f cdv A outer s H E p) (fun _ _ _ _ => False) (defBody st) (body x)) :
    RunP P w K mg base (L2N.CX P w) (k + 1) f fd [ex] (spX ⟨K, mg⟩ p.1 cls d fun x => mDef 1 N.length [] (body x)) p := by
  obtain ⟨oc, od, kV, doc, pm, an, cdv, ct, osl, rfl, lk, hcd⟩ := F.ex
  refine run_ofP lk hcd S (fun vs H Q E h => by rw [h.1]; rfl) fun A outer s H vs Q E hot hr h => ?_
  obtain ⟨rfl, F0, x, h1, h2, h3, h4, h⟩ := h
  obtain ⟨t, pt, qt⟩ := (hbody cdv A outer s H E ⟨H, F0, H, [], [], some (0, p.1)⟩ x hr ⟨rfl, h3, h4⟩).ex
  refine ⟨t, pt, ?_⟩
  have S0 : SR ⟨K, mg⟩ ⟨H, F0, H, [], [], some (0, p.1)⟩ F0 H H [.exn] ([V.ref p.1].map some) := by
    refine ⟨⟨Same.refl _, fun a o e => .inl e, Same.refl _, fun a o e => .inl e, h1, Same.refl _, fun a e => e, h2, fun a o hm => by simp at hm⟩, rfl, fun i s e => ?_, fun i j s s' b e1 e2 m1 m2 p1 p2 => ?_, fun b o hm => by simp at hm⟩
    · cases i with
      | zero => cases e; exact ⟨_, rfl, rfl⟩
      | succ i => simp at e
    · cases i with
      | zero => cases e1; cases m1
      | succ i => simp at e1
  have S1 := S0.start (n := N.length - 1)
  have est : L2.start N [V.ref p.1] = [V.ref p.1].map some ++ List.replicate (N.length - 1) none := by
    unfold L2.start
    rfl
  rw [est]
  refine qt F0 H H _ _ _ S1 ?_
  unfold mDef at h
  dsimp only at h
  rw [if_pos (show ([SV.exn] : List SV).length = 1 from rfl)] at h
  cases eb : body x ([SV.exn] ++ List.replicate (N.length - 1) SV.no) with
  | ret r sd =>
    rw [eb] at h
    unfold finF at h
    dsimp only at h
    cases el : leaves sd r with
    | none => rw [el] at h; exact h.elim
    | some r' =>
      rw [el] at h
      exact fun F' G' H' σ' v e1 e2 S' q => h v F' G' H' S'.toHR (leaves_ok S' q el)
  | nx sd =>
    rw [eb] at h
    exact fun F' G' H' σ' e1 e2 S' => h .non F' G' H' S'.toHR .non
  | exc x sd => rw [eb] at h; exact h.elim
  | bk sd => rw [eb] at h; exact h.elim
  | ct sd => rw [eb] at h; exact h.elim
  | fail => rw [eb] at h; exact h.elim
/-- a def that may be called with the exception -/
structure CanX (P : Program) (w : World) (K : PySem.W.Frag) (mg : Str → Option Value) (base : Heap) (k : Nat) (x : Str) (mf : Xn → MF) : Prop where
  ex : ∃ f fd ex, (∀ p cls d, L2N.Zn cls d p.2 → (∃ vs, p.2.data = .fields vs) → RunP P w K mg base (L2N.CX P w) k f fd [ex] (spX ⟨K, mg⟩ p.1 cls d mf) p) ∧ mg x = some (.ref f) ∧ PySem.W.keepIn K (.ref f) = true ∧ Binds K fd [ex] []
theorem CanX.of {x ex : Str} {st : Stmt} {N : List Str} {k : Nat} {body : Xn → MS} (F : Src K mg x st [ex]) (S : FnScope N [ex] (defScope st))
    (hbody : ∀ (f : Addr) (p : Addr × Obj) (cls : Value) (d : Option Addr) (cdv : Value) (A : Around) (outer : List Env) (s : Shared) (H : Hp) (E : XK) (fx : Fx) (y : Xn), L2N.Zn cls d p.2 → (∃ vs, p.2.data = .fields vs) → RoomH k (A.deeper (envOfC x (defScope st) s.heap.objs.size f cdv)) → ExAt ⟨K, mg⟩ fx 0 y p.1 cls d →
      SSs fx (cxH (L2N.CX P w) P w K mg base N x (defScope st) f cdv A outer s H E p) (fun _ _ _ _ => False) (defBody st) (body y)) :
    CanX P w K mg base (k + 1) x fun y => mDef 1 N.length [] (body y) := by
  obtain ⟨f, fd, h1, h2, h3⟩ := F.ex
  exact ⟨f, fd, ex, fun p cls d hz hf => defX_ok h1 S fun cdv A outer s H E fx y hr hA => hbody f p cls d cdv A outer s H E fx y hz hf hr hA, h2, h1.kp, h3⟩
end
/-- f(e), e the exception that the suite holds -/
def mCallX (i : Nat) (x : Xn) (mf : Xn → MF) : M RV := mBind (mExn i) fun _ => fun sd => match mf x [.exn] with
  | .ok r [] => .ok r sd
  | _ => .fail
section
variable {fx : Fx} {X : Cx} {Wx : WX} {a : Addr} {oe : Obj} {cls : Value} {d : Option Addr} {pn : List (Addr × Obj)} {i k j : Nat} {n f : Str} {x : Xn} {pe pos p : Pos} {mf : Xn → MF}
theorem SR.behind {W : Wd} {F G H F' G' H' : Hp} {sd : List SV} {σ : L2.St} {a : Addr} (S : SR W fx F G H sd σ) (h : HR ⟨H, F, H, [], [], some (0, a)⟩ F' G' H') :
    SR W fx F' (joinG G F') H' sd σ ∧ Same F F' ∧ Same G (joinG G F') ∧ ∀ a, G' a = none → H a = none → joinG G F' a = none ∧ ∀ (j : Nat) (s : SV), sd[j]? = some s → s.mine = true → σ[j]? ≠ some (some (V.ref a)) := by
  have P : PinOk sd σ [] [] [] := ⟨rfl, fun k i a e => by simp at e⟩
  have hl : lent H [] = H := by funext b; unfold lent; simp
  have h2 : HR ⟨H, F, lent H [], [], [], none⟩ F' G' H' := by
    rw [hl]
    exact ⟨h.ff, h.fn, h.gg, h.gn, h.fg, h.gh, h.dom, h.tup, h.held⟩
  have q := call_end (rs := []) (ios := []) (js := []) (outs := []) S rfl rfl P (by decide) h2 ⟨rfl, fun k i d e => by simp at e⟩
  have e : ∀ (n : Nat) (l : List SV), wb (([] : List Nat).zip ([] : List D)) n l = l := fun n l => by
    apply List.ext_getElem?
    intro i
    rw [wb_get]
    cases l[i]? with
    | none => rfl
    | some s => rfl
  rw [e] at q
  exact q
theorem pe_callX {sp : Sp} {fa : Addr} {fd : FuncData} {ex : Str} {e : Expr} {es : List Expr} {t : TA} (hlen : ∀ vs H Q E, sp vs H Q E → vs.length = 1) (hrun : RunP X.prog X.w X.K X.mg X.base (L2N.CX X.prog X.w) k fa fd [ex] sp (a, oe)) (hrH : RoomH k (X.suite a ((a, oe) :: pn)).A) (hot : Hot1 (X.suite a ((a, oe) :: pn)).A (a, oe)) (hg : Gl X f) (hm : X.mg f = some (.ref fa)) (hk : PySem.W.keepIn X.K (.ref fa) = true) (hb : Binds X.K fd [ex] [])
    (ha : PA (X.suite a ((a, oe) :: pn)) (e :: es) t) (hdb : (f == ("__debug__" : Str)) = false) (he : starEach (e :: es) X.env = (false, eval e X.env) :: starEach es X.env) (hpl : (backTo pos (starEach es X.env)).any (·.1) = false) :
    PE (X.suite a ((a, oe) :: pn)) (.Call (.Name f p) (e :: es) [] pos) (tCallS sp (fun _ _ _ _ => False) t) := by
  refine ⟨fun pins s σ H Q I h => ?_⟩
  refine wpAny_Call_Name_kw (ld_glob I hg hm ?_ hdb)
  refine PySem.W.callWith_K (h₀ := X.base) I.ok.mod.kin hk (thn (ha.run pos pins s σ H _ I h) fun us s1 ⟨vs, H1, I1, r, q⟩ => ⟨I1.kIn, ?_⟩) he hpl
  have hl : us.length = 1 := by rw [← r.length, hlen _ _ _ _ q]
  have b := hb s1 us I1.kIn (by rw [List.append_nil]; exact hl)
  rw [List.append_nil] at b
  have P1 := I1.pin (a, oe) (List.mem_append_left _ List.mem_cons_self)
  have hpin : L2H.PinOk X.stack H1 s1 (a, oe) := ⟨P1.1, P1.2.1, fun hm => (List.mem_cons.mp (I1.stkSub a hm)).elim P1.2.2.1 P1.2.2.2.1, P1.2.2.2.2⟩
  refine wpAny_call (codeAny_mono (hrun (X.suite a ((a, oe) :: pn)).A X.stack s1 H1 ⟨us, []⟩ us vs Q (fun _ _ _ => False) hrH hot hpin I1.env0 b r q) fun r s' hq => ?_)
  cases r with
  | error e =>
    obtain ⟨_, _, _, _, _, _, _, _, _, _, _, _, z⟩ := hq
    exact z.elim
  | ok fl =>
    cases fl with
    | ret u => exact I1.after hq
    | next => exact False.elim hq
    | brk => exact False.elim hq
    | cont => exact False.elim hq
theorem se_callX (C : CanX X.prog X.w X.K X.mg X.base k f mf) (A : ExAt (wd X) fx i x a cls d) (hz : L2N.Zn cls d oe) (hf : ∃ vs, oe.data = .fields vs) (hr : Room j X.A) (hkj : k ≤ j := by decide) (hg : Gl X f := by rfl) (hN : X.N[i]? = some n := by rfl)
    (hv : Vis X.env.scope n := by first | exact Or.inl rfl | exact Or.inr (Or.inl rfl) | exact Or.inr (Or.inr rfl)) (hd : (n == ("__debug__" : Str)) = false := by decide) (hcd : (n == ("__classdict__" : Str)) = false := by decide) (hdb : (f == ("__debug__" : Str)) = false := by decide)
    (he : starEach [.Name n pe] X.env = (false, eval (.Name n pe) X.env) :: starEach [] X.env := by rfl) (hpl : (backTo pos (starEach [] X.env)).any (·.1) = false := by rfl) :
    SE fx (X.suite a ((a, oe) :: pn)) Wx (.Call (.Name f p) [.Name n pe] [] pos) (mCallX i x mf) := by
  obtain ⟨fa, fd, ex, hrun, hm, hk, hb⟩ := C.ex
  have hrun := hrun (a, oe) cls d hz hf
  have hrH : RoomH k (X.suite a ((a, oe) :: pn)).A := by
    have := hr.mono hkj
    exact ⟨this.dp, this.un⟩
  have hot : Hot1 (X.suite a ((a, oe) :: pn)).A (a, oe) := by
    obtain ⟨vs, hv⟩ := hf
    exact ⟨rfl, vs, hv, hz.2.2 vs hv⟩
  refine ⟨_, pe_callX (fun vs H Q E h => by rw [h.1]; rfl) hrun hrH hot hg hm hk hb (pa_cons (pe_var (X := X.suite a ((a, oe) :: pn)) hN hv hd hcd) pa_nil he) hdb he hpl, fun F G H sd σ Q S h => ?_⟩
  · obtain ⟨a', e1, e2, h⟩ := h.exn S
    rw [A.exn] at e1
    cases e1
    refine ⟨.ref a, e2, rfl, F, x, S.fh, S.tup, A.cls, ?_, ?_⟩
    · rcases A.dic with z | ⟨dd, fs, z1, z2, z3, z4⟩
      · exact .inl z
      · exact .inr ⟨dd, fs, z1, S.ff _ _ z2, z3, ⟨z4.n, fun i d v h1 h2 => (z4.r i d v h1 h2).keep S.ff⟩⟩
    · try dsimp only at h
      cases em : mf x [.exn] with
      | fail => rw [em] at h; exact h.elim
      | exc y o => rw [em] at h; exact h.elim
      | ok r outs =>
        rw [em] at h
        cases outs with
        | cons _ _ => exact h.elim
        | nil =>
          intro v F2 G2 H2 hr2 rr
          obtain ⟨S2, f1, f2, f3⟩ := S.behind hr2
          refine h F2 (joinG G F2) H2 v f1 f2 S2 ?_
          cases r with
          | val d => exact rr
          | fresh d =>
            obtain ⟨b, rfl, b1, b2, b3⟩ := rr
            obtain ⟨c1, c2⟩ := f3 b b1 b2
            exact ⟨b, rfl, c1, S.dom b b2, b3, c2, fun o hm => by rw [(S.held b o hm).1] at b2; cases b2⟩
          | bval d => exact rr.elim
          | slot i => exact rr.elim
end
end Av

/-! classes: as values, their constants, classmethods; properties -/
namespace Av
open PySem PySem.Spec PyProof.Rows L2 ClX
section
variable {fx : Fx} {X : Cx} {Wx : WX} {e o : Expr} {pos : Pos} {x : Str}
/-- a class (or a def) of the module as a value -/
theorem se_cls {C : Addr} (hg : Gl X x) (hm : X.mg x = some (.ref C)) (hd : (x == ("__debug__" : Str)) = false := by decide) : SE fx X Wx (.Name x pos) (mC (.fn x)) := se_c (pe_glob (v := .ref C) hg hm rfl hd) fun _ => .fn hm
/-- C.f, a constant of the class -/
theorem se_cval {C : Addr} {mc : Value} {f : Str} {d : D} {v : V} {u : Value} {p : Pos} (hg : Gl X x) (hm : X.mg x = some (.ref C)) (r : CRead X.K C mc) (k : CVal X.K C mc f v u) (hr : ∀ F, Rep (wd X) F d v) (hd : (x == ("__debug__" : Str)) = false := by decide)
    (hb : attributeBase (.Name x p) f X.env (eval (.Name x p) X.env) = eval (.Name x p) X.env := by rfl) : SE fx X Wx (.Attribute (.Name x p) f pos) (mC d) :=
  ⟨_, pe_cval (pe_glob (v := .ref C) hg hm rfl hd) hb, fun F G H sd σ Q S h => ⟨C, mc, v, u, rfl, r, k, h F G H v (Same.refl _) (Same.refl _) S (hr F)⟩⟩
/-- a call whose arguments stand there -/
theorem call_at {ios : List Nat} {mf : MF} {F1 G1 H1 : Hp} {sd1 : List SV} {σ : L2.St} {rs : List RV} {vs : List V} {Q : VK} (nd : ios.Nodup) (S1 : SR (wd X) fx F1 G1 H1 sd1 σ) (r1 : RVRs (wd X) fx F1 G1 H1 sd1 σ rs vs)
    (h : Po (wd X) fx F1 G1 σ Wx (RlE (wd X) fx σ) Q (mCall ios mf (mPure rs) sd1)) : spD (wd X) ios mf vs H1 Q (WE Wx σ) := by
  unfold mCall mBind mPure R.bind at h
  dsimp only at h
  cases e3 : passAll sd1 ios 0 rs with
  | none => rw [e3] at h; exact h.elim
  | some svs =>
    cases e4 : ioSlots rs ios with
    | none => rw [e3, e4] at h; exact h.elim
    | some js =>
      rw [e3, e4] at h
      dsimp only at h
      split at h
      · rename_i ap
        obtain ⟨pin, P⟩ := pins_there S1 r1 e3 e4
        obtain ⟨k1, k2, k3⟩ := call_start S1 r1 e3 e4 ap P
        refine ⟨F1, lent H1 pin, pin, svs, k1, k2, k3, ?_⟩
        cases em : mf svs with
        | fail => rw [em] at h; exact h.elim
        | ok r outs =>
          rw [em] at h
          intro v F2 G2 H2 hr rr ho
          obtain ⟨S2, f1, f2, f3⟩ := call_end S1 e4 ap P nd hr ho
          refine h F2 (joinG G1 F2) H2 v f1 f2 S2 ?_
          cases r with
          | val d => exact rr
          | fresh d =>
            obtain ⟨a, rfl, b1, b2, b3⟩ := rr
            obtain ⟨c1, c2⟩ := f3 a b1 b2
            exact ⟨a, rfl, c1, S1.dom a b2, b3, c2, fun o hm => by rw [(S1.held a o hm).1] at b2; cases b2⟩
          | bval d => exact rr.elim
          | slot i => exact rr.elim
        | exc x outs =>
          rw [em] at h
          intro c d F2 G2 H2 hr rr ho
          obtain ⟨S2, f1, f2, f3⟩ := call_end S1 e4 ap P nd hr ho
          exact h F2 (joinG G1 F2) H2 c d f1 f2 S2 rr
      · exact h.elim
/-- no exception comes out -/
def mNoX {α : Type} (m : M α) : M α := fun sd => match m sd with
  | .exc _ _ => .fail
  | r => r
/-- an own object: its class -/
theorem RVR.isObj {W : Wd} {F G H : Hp} {sd : List SV} {σ : L2.St} {r : RV} {v : V} {c : Str} {ds : List (Str × D)} (S : SR W fx F G H sd σ) (q : RVR W fx F G H sd σ r.keep v) (h : r.keep.d? sd = some (.obj c ds)) : ∃ a C dx fs, v = .ref a ∧ H a = some (.ins C dx fs) ∧ W.mg c = some (.ref C) ∧ ds.map (·.1) = fs.map (·.1) := by
  have key : ∀ {ds : List (Str × D)} {fs : List (Str × V)} {J : Hp}, ORel W J ds fs → ds.map (·.1) = fs.map (·.1) := fun {ds fs J} o => by
    apply List.ext_getElem?
    intro i
    rw [List.getElem?_map, List.getElem?_map]
    cases e1 : ds[i]? with
    | none => rw [List.getElem?_eq_none (by rw [← o.n]; exact List.getElem?_eq_none_iff.mp e1)]; rfl
    | some d =>
      have hi : i < fs.length := by rw [← o.n]; exact (List.getElem?_eq_some_iff.mp e1).1
      rw [List.getElem?_eq_getElem hi]
      exact congrArg some (o.k i d _ e1 (List.getElem?_eq_getElem hi))
  have low : ∀ {J : Hp} {v : V}, Same J H → Rep W J (.obj c ds) v → ∃ a C dx fs, v = .ref a ∧ H a = some (.ins C dx fs) ∧ W.mg c = some (.ref C) ∧ ds.map (·.1) = fs.map (·.1) := fun {J v} s r => by
    obtain ⟨a, C, dx, fs, rfl, h1, h2, h3⟩ := rep_obj r
    exact ⟨a, C, dx, fs, rfl, s _ _ h1, h2, key h3⟩
  have own : ∀ {p : Addr}, OwnO W F H p (.obj c ds) → ∃ a C dx fs, V.ref p = .ref a ∧ H a = some (.ins C dx fs) ∧ W.mg c = some (.ref C) ∧ ds.map (·.1) = fs.map (·.1) := fun {p} r => by
    obtain ⟨C, dx, fs, h1, h2, h3⟩ := own_obj r
    exact ⟨p, C, dx, fs, rfl, h1, h2, key h3⟩
  cases r with
  | val d' => cases h; exact low S.fh q
  | fresh d' => cases h; exact low S.fh q
  | bval d' => cases h; exact low S.gh q
  | slot i =>
    have q : σ[i]? = some (some v) := q
    have h : (sd[i]?.getD .no).d? = some (.obj c ds) := h
    cases e : sd[i]? with
    | none => rw [e] at h; cases h
    | some s =>
      rw [e] at h
      have k := S.slot i _ e
      cases s with
      | no => cases h
      | exn => cases h
      | sh d' => cases h; obtain ⟨w, h1, h2⟩ := k; rw [q] at h1; cases h1; exact low S.fh h2
      | bor d' => cases h; obtain ⟨w, h1, h2⟩ := k; rw [q] at h1; cases h1; exact low S.gh h2
      | own d' => cases h; obtain ⟨a, h1, h2, h3, h4⟩ := k; rw [q] at h1; cases h1; exact own h4
      | io d' => cases h; obtain ⟨a, _, h1, h2, h4⟩ := k; rw [q] at h1; cases h1; exact own h4
theorem keys_none {ds : List (Str × D)} {fs : List (Str × V)} {f : Str} (h : ds.map (·.1) = fs.map (·.1)) (e : dFld ds f = none) : fs.lookup f = none := by
  unfold dFld at e
  induction ds generalizing fs with
  | nil => cases fs with
    | nil => rfl
    | cons p r => simp at h
  | cons q s ih => cases fs with
    | nil => simp at h
    | cons p r =>
      obtain ⟨g, x⟩ := q; obtain ⟨g', y⟩ := p
      simp only [List.map_cons, List.cons.injEq] at h
      obtain ⟨rfl, h⟩ := h
      rw [List.lookup_cons] at e ⊢
      cases hb : (f == g) with
      | true => rw [hb] at e; cases e
      | false => rw [hb] at e; exact ih h e
/-- e.f, a property of the class c whose getter runs as mf -/
def mProp (c : Str) (mf : MF) (ma : M RV) : M RV := mBind ma fun r => mBind (mRead r.keep) fun d => mBind (mGet d.obj?) fun p => if p.1 = c then mNoX (mCall [] mf (mPure [r.keep])) else mFail
theorem noX_po {F G : Hp} {σ : L2.St} {Q : VK} {m : M RV} {sd : List SV} (h : Po (wd X) fx F G σ Wx (RlE (wd X) fx σ) Q (mNoX m sd)) : Po (wd X) fx F G σ (fun _ _ _ _ => False) (RlE (wd X) fx σ) Q (m sd) := by
  unfold mNoX at h
  cases e : m sd with
  | ok a sd1 => rw [e] at h; exact h
  | exc y sd1 => rw [e] at h; exact h.elim
  | fail => rw [e] at h; exact h.elim
theorem se_prop {k : Nat} {C p g : Addr} {fd : FuncData} {ps : List Str} {mf : MF} {c f : Str} {ma : M RV} (hm : X.mg c = some (.ref C)) (hc : Cls X.K C) (hp : PropOf X.K C f p g) (Fk : FnOk X.prog X.w X.K X.mg X.base (L2N.CX X.prog X.w) k g fd ps (spD (wd X) [] mf)) (hr : Room (k + 1) X.A) (hb : Binds X.K fd ps [])
    (ha : SE fx X Wx e ma) (hab : attributeBase e f X.env (eval e X.env) = eval e X.env := by rfl) : SE fx X Wx (.Attribute e f pos) (mProp c mf ma) := by
  obtain ⟨ta, pa, qa⟩ := ha.ex
  refine ⟨_, pe_prop (E := fun _ _ _ => False) pa hc hp Fk hr hb .nil (fun pins σ H s e s' I z => ?_) hab, fun F G H sd σ Q S h => one qa S h fun F1 G1 H1 sd1 ra v e1 e2 S1 r1 h => ?_⟩
  · obtain ⟨_, _, _, _, _, _, _, _, _, _, _, _, z⟩ := z
    exact z.elim
  · obtain ⟨d, k1, h⟩ := h.read
    obtain ⟨⟨c', ds⟩, k2, h⟩ := h.getB
    rw [obj?_some k2] at k1
    by_cases hcc : c' = c
    · subst hcc
      rw [if_pos rfl] at h
      obtain ⟨a, C', dx, fs, rfl, h1, h2, _⟩ := RVR.isObj (r := ra) S1 r1 k1
      have h2 : X.mg c' = some (.ref C') := h2
      rw [hm] at h2
      cases h2
      refine ⟨a, dx, fs, rfl, h1, ?_⟩
      have q := call_at (ios := []) (by decide) S1 (rs := [ra.keep]) (vs := [.ref a]) ⟨rfl, fun i r v k1 k2 => by
        cases i with
        | zero => cases k1; cases k2; cases ra <;> exact r1
        | succ i => simp at k1⟩ (noX_po h)
      exact q
    · rw [if_neg hcc] at h; exact h.elim
end
end Av

/-! methods, classmethods, making by a class that a slot holds -/
namespace Av
open PySem PySem.Spec PyProof.Rows L2 ClX
section
variable {X : Cx} {CX : CXT} {k i : Nat} {f C g pr : Addr} {fd : FuncData} {ps : List Str} {sp : Sp} {E : L2.St → XK} {x m : Str} {p pos apos : Pos} {e o : Expr} {es : List Expr} {ta : TE} {t : TA} {mc : Value} {pl : Sem Bool}
def tMethS (C : Addr) (m : Str) (sp : Sp) (E : L2.St → XK) (ta : TE) (t : TA) : TE := fun σ H Q => ta σ H fun x H1 => ∃ a dx fs, x = .ref a ∧ H1 a = some (.ins C dx fs) ∧ fs.lookup m = none ∧ t σ H1 fun vs H2 => sp (x :: vs) H2 Q (E σ)
theorem pe_methS (he : PE X o ta) (c : Cls X.K C) (hm : Meth X.K C m f) (F : FnOk X.prog X.w X.K X.mg X.base CX k f fd ps sp) (hr : Room k X.A) (hb : Binds X.K fd ps []) (hx : ∀ σ, PassesAt CX X σ (E σ)) (ha : PA X (e :: es) t)
    (hst : starEach (e :: es) X.env = (false, eval e X.env) :: starEach es X.env := by rfl) (hpl : (backTo pos (starEach es X.env)).any (·.1) = false := by rfl)
    (ht : eval (.Call (.Attribute o m apos) (e :: es) [] pos) X.env = (do
      let ov ← eval o X.env
      standAt apos.atName
      let (f, first) ← holding [ov] (getMethod ov m pl)
      callWith pos f first (backTo pos (starEach (e :: es) X.env)) (backToKw pos (keywordEach [] X.env))) := by rfl) :
    PE X (.Call (.Attribute o m apos) (e :: es) [] pos) (tMethS C m sp E ta t) := by
  refine ⟨fun pins s σ H Q I h => PySem.W.methodCall_KW (pl := pl) (thn (he.run pins s σ H _ I h) fun u s1 hu => ?_) ht⟩
  obtain ⟨y, H1, I1, ry, a, dx, fs, rfl, ea, l, q⟩ := hu
  obtain rfl : u = Value.ref a := ry
  refine getmeth_ok I1 ea c hm l (PySem.W.callWith_K (first := [.ref a]) (h₀ := X.base) I.ok.mod.kin hm.kp (thn (ha.run pos pins s1 σ H1 _ I1 q) fun us s2 hu => ?_) hst hpl)
  obtain ⟨vs, H2, I2, r, q2⟩ := hu
  exact ⟨I2.kIn, run_fnS (us := .ref a :: us) (vs := .ref a :: vs) F hr hb (hx σ) I2 (.cons rfl r) q2⟩
def tMethS0 (C : Addr) (m : Str) (sp : Sp) (E : L2.St → XK) (ta : TE) : TE := fun σ H Q => ta σ H fun x H1 => ∃ a dx fs, x = .ref a ∧ H1 a = some (.ins C dx fs) ∧ fs.lookup m = none ∧ sp [x] H1 Q (E σ)
def tCMethS (C : Addr) (sp : Sp) (E : L2.St → XK) (ta : TE) (t : TA) : TE := fun σ H Q => ta σ H fun x H1 => x = .ref C ∧ t σ H1 fun vs H2 => sp (.ref C :: vs) H2 Q (E σ)
theorem pe_cmethS (he : PE X o ta) (r : CRead X.K C mc) (c : CMet X.K C mc m pr g) (F : FnOk X.prog X.w X.K X.mg X.base CX k g fd ps sp) (hr : Room k X.A) (hb : Binds X.K fd ps []) (hx : ∀ σ, PassesAt CX X σ (E σ)) (ha : PA X (e :: es) t)
    (hst : starEach (e :: es) X.env = (false, eval e X.env) :: starEach es X.env := by rfl) (hpl : (backTo pos (starEach es X.env)).any (·.1) = false := by rfl)
    (ht : eval (.Call (.Attribute o m apos) (e :: es) [] pos) X.env = (do
      let ov ← eval o X.env
      standAt apos.atName
      let (f, first) ← holding [ov] (getMethod ov m pl)
      callWith pos f first (backTo pos (starEach (e :: es) X.env)) (backToKw pos (keywordEach [] X.env))) := by rfl) :
    PE X (.Call (.Attribute o m apos) (e :: es) [] pos) (tCMethS C sp E ta t) := by
  refine ⟨fun pins s σ H Q I h => PySem.W.methodCall_KW (pl := pl) (thn (he.run pins s σ H _ I h) fun u s1 hu => ?_) ht⟩
  obtain ⟨y, H1, I1, ry, rfl, q⟩ := hu
  obtain rfl : u = Value.ref C := ry
  refine getmethcm_ok I1 r c fun s2 I2 => ?_
  have bn := base_none I1 (Nat.le_refl s1.heap.objs.size)
  generalize s1.heap.objs.size = z at I2 bn
  refine callwith_cm I2 bn c.fi (thn (ha.run pos _ s2 σ H1 _ I2 q) fun us s3 hu => ?_) hst hpl
  obtain ⟨vs, H2, I3, rv, q2⟩ := hu
  refine ⟨⟨pin_at I3, I3.kIn⟩, ?_⟩
  have hl : (Value.ref C :: us).length = ps.length := by rw [← F.len _ _ _ _ q2]; simp [rv.length]
  have b := hb s3 (Value.ref C :: us) I3.kIn (by rw [List.append_nil]; exact hl)
  rw [List.append_nil] at b
  have run : wpAny (model X.prog X.w) X.A (call (.ref z) us) (EP X ((z, PySem.W.methodObj (.ref g) (.ref C)) :: pins) σ Q) X.xe s3 := by
    refine wpAny_call (PySem.W.method_call (pin_at I3) (codeAny_mono (F.run X.A X.stack s3 H2 ⟨.ref C :: us, []⟩ (.ref C :: us) (.ref C :: vs) Q (E σ) hr I3.env0 b (.cons rfl rv) q2) fun r s' hq => ?_))
    cases r with
    | error er => exact hx σ _ H2 s3 er s' I3 hq
    | ok fl =>
      cases fl with
      | ret u => exact I3.after hq
      | next => exact False.elim hq
      | brk => exact False.elim hq
      | cont => exact False.elim hq
  exact thn run fun _ _ y => unpinE y
/-- x(..), x a slot that holds the class at C -/
def tMakeL (i : Nat) (C : Addr) (sp : Sp) (E : L2.St → XK) (t : TA) : TE := fun σ H Q => σ[i]? = some (some (.ref C)) ∧ tMakeS C sp E t σ H Q
theorem pe_makeL (M : Mk X.K C f) (F : FnOk X.prog X.w X.K X.mg X.base CX k f fd ps sp) (hr : Room (k + 1) X.A) (hN : X.N[i]? = some x) (hv : Vis X.env.scope x) (hb : Binds X.K fd ps []) (hx : ∀ σ, PassesAt CX X σ (E σ))
    (ha : PA X (e :: es) t) (hdb : (x == ("__debug__" : Str)) = false := by decide) (hcd : (x == ("__classdict__" : Str)) = false := by decide) (he : starEach (e :: es) X.env = (false, eval e X.env) :: starEach es X.env := by rfl) (hpl : (backTo pos (starEach es X.env)).any (·.1) = false := by rfl) :
    PE X (.Call (.Name x p) (e :: es) [] pos) (tMakeL i C sp E t) := by
  refine ⟨fun pins s σ H Q I h => ?_⟩
  obtain ⟨hs, h⟩ := h
  refine wpAny_Call_Name_kw (thn ((pe_var (pos := p) hN hv hdb hcd).run pins s σ H (fun v H1 => v = .ref C ∧ H1 = H) I ⟨.ref C, hs, rfl, rfl⟩) fun u s1 hu => ?_)
  obtain ⟨v, H1, I1, r1, rfl, rfl⟩ := hu
  cases r1
  refine PySem.W.callWith_K (h₀ := X.base) I.ok.mod.kin M.kp (thn (ha.run pos pins s1 σ _ _ I1 h) fun us s2 ⟨vs, H2, I2, r, q⟩ => ⟨I2.kIn, ?_⟩) he hpl
  exact run_makeS M F hr hb (hx σ) I2 r q
end
section
variable {fx : Fx} {X : Cx} {Wx : WX} {e o : Expr} {es : List Expr} {pos apos p1 : Pos} {x m c : Str} {k : Nat} {f C g pr : Addr} {fd : FuncData} {ps : List Str} {mf : MF} {ios : List Nat} {mo : M RV} {ma : M (List RV)} {mc : Value} {pl : Sem Bool}
def mMeth (c m : Str) (ios : List Nat) (mf : MF) (mo : M RV) (ma : M (List RV)) : M RV := mBind mo fun ro => mBind (mRead ro.keep) fun d => mBind (mGet d.obj?) fun p => if p.1 = c ∧ (dFld p.2 m).isNone = true then mBind ma fun rs => mCall ios mf (mPure (ro.keep :: rs)) else mFail
theorem RVRs.cons {W : Wd} {F G H : Hp} {sd : List SV} {σ : L2.St} {r : RV} {v : V} {rs : List RV} {vs : List V} (h : RVR W fx F G H sd σ r.keep v) (q : RVRs W fx F G H sd σ rs vs) : RVRs W fx F G H sd σ (r :: rs) (v :: vs) :=
  ⟨by simp [q.1], fun i r' v' k1 k2 => by
    cases i with
    | zero => cases k1; cases k2; exact h
    | succ i => exact q.2 i r' v' (by simpa using k1) (by simpa using k2)⟩
theorem se_meth (hmc : X.mg c = some (.ref C)) (hc : Cls X.K C) (hm : Meth X.K C m f) (Fk : FnOk X.prog X.w X.K X.mg X.base (L2N.CX X.prog X.w) k f fd ps (spD (wd X) ios mf)) (tk : L2N.Takes X Wx) (hr : Room k X.A) (hb : Binds X.K fd ps []) (ho : SE fx X Wx o mo) (ha : SA fx X Wx (e :: es) ma) (nd : ios.Nodup := by decide)
    (hst : starEach (e :: es) X.env = (false, eval e X.env) :: starEach es X.env := by rfl) (hpl : (backTo pos (starEach es X.env)).any (·.1) = false := by rfl)
    (ht : eval (.Call (.Attribute o m apos) (e :: es) [] pos) X.env = (do
      let ov ← eval o X.env
      standAt apos.atName
      let (f, first) ← holding [ov] (getMethod ov m pl)
      callWith pos f first (backTo pos (starEach (e :: es) X.env)) (backToKw pos (keywordEach [] X.env))) := by rfl) :
    SE fx X Wx (.Call (.Attribute o m apos) (e :: es) [] pos) (mMeth c m ios mf mo ma) := by
  obtain ⟨to, po, qo⟩ := ho.ex
  obtain ⟨t, pt, q⟩ := ha.ex
  refine ⟨_, pe_methS (pl := pl) po hc hm Fk hr hb (fun σ => pass_at tk σ) pt hst hpl ht, fun F G H sd σ Q S h => one qo S h fun F1 G1 H1 sd1 ra v e1 e2 S1 r1 h => ?_⟩
  obtain ⟨d, k1, h⟩ := h.read
  obtain ⟨⟨c', ds⟩, k2, hh⟩ := h.getB
  clear h
  rw [obj?_some k2] at k1
  by_cases hcc : c' = c ∧ (dFld ds m).isNone = true
  · rw [if_pos hcc] at hh
    obtain ⟨hcc, hno⟩ := hcc
    subst hcc
    obtain ⟨a, C', dx, fs, rfl, h1, h2, h3⟩ := RVR.isObj (r := ra) S1 r1 k1
    have h2 : X.mg c' = some (.ref C') := h2
    rw [hmc] at h2
    cases h2
    refine ⟨a, dx, fs, rfl, h1, keys_none h3 (by simpa using hno), args q S1 hh fun F3 G3 H3 sd3 rs vs e5 e6 S3 r3 h => ?_⟩
    exact call_at nd S3 (RVRs.cons (by rw [RV.keep_keep]; exact r1.mono e5 e6) r3) h
  · rw [if_neg hcc] at hh; exact hh.elim
def mCMeth (c : Str) (ios : List Nat) (mf : MF) (ma : M (List RV)) : M RV := mBind ma fun rs => mCall ios mf (mPure (.val (.fn c) :: rs))
theorem se_cmeth (hg : Gl X x) (hmc : X.mg x = some (.ref C)) (r : CRead X.K C mc) (c : CMet X.K C mc m pr g) (Fk : FnOk X.prog X.w X.K X.mg X.base (L2N.CX X.prog X.w) k g fd ps (spD (wd X) ios mf)) (tk : L2N.Takes X Wx) (hr : Room k X.A) (hb : Binds X.K fd ps []) (ha : SA fx X Wx (e :: es) ma) (nd : ios.Nodup := by decide) (hdb : (x == ("__debug__" : Str)) = false := by decide)
    (hst : starEach (e :: es) X.env = (false, eval e X.env) :: starEach es X.env := by rfl) (hpl : (backTo pos (starEach es X.env)).any (·.1) = false := by rfl)
    (ht : eval (.Call (.Attribute (.Name x p1) m apos) (e :: es) [] pos) X.env = (do
      let ov ← eval (.Name x p1) X.env
      standAt apos.atName
      let (f, first) ← holding [ov] (getMethod ov m pl)
      callWith pos f first (backTo pos (starEach (e :: es) X.env)) (backToKw pos (keywordEach [] X.env))) := by rfl) :
    SE fx X Wx (.Call (.Attribute (.Name x p1) m apos) (e :: es) [] pos) (mCMeth x ios mf ma) := by
  obtain ⟨t, pt, q⟩ := ha.ex
  refine ⟨_, pe_cmethS (pl := pl) (pe_glob (v := .ref C) hg hmc rfl hdb) r c Fk hr hb (fun σ => pass_at tk σ) pt hst hpl ht, fun F G H sd σ Q S h => ⟨rfl, args q S h fun F1 G1 H1 sd1 rs vs e1 e2 S1 r1 h => ?_⟩⟩
  exact call_at nd S1 (RVRs.cons (r := .val (.fn x)) (.fn hmc) r1) h
/-- slot i holds the class c: what it makes -/
def mMakeV (i : Nat) (c : Str) (mf : MF) (ma : M (List RV)) : M RV := fun sd => match sd[i]?.getD .no with
  | .sh (.fn c') => if c' = c then mMake c mf ma sd else .fail
  | _ => .fail
theorem se_makeV {i : Nat} {y : Str} (M : Mk X.K C f) (Fk : FnOk X.prog X.w X.K X.mg X.base (L2N.CX X.prog X.w) k f fd ps (spD (wd X) [0] mf)) (tk : L2N.Takes X Wx) (hr : Room (k + 1) X.A) (hm : X.mg c = some (.ref C)) (hb : Binds X.K fd ps [])
    (ha : SA fx X Wx (e :: es) ma) (hN : X.N[i]? = some y := by rfl) (hv : Vis X.env.scope y := by first | exact Or.inl rfl | exact Or.inr (Or.inl rfl) | exact Or.inr (Or.inr rfl)) (hdb : (y == ("__debug__" : Str)) = false := by decide) (hcd : (y == ("__classdict__" : Str)) = false := by decide) (he : starEach (e :: es) X.env = (false, eval e X.env) :: starEach es X.env := by rfl) (hpl : (backTo pos (starEach es X.env)).any (·.1) = false := by rfl) :
    SE fx X Wx (.Call (.Name y p1) (e :: es) [] pos) (mMakeV i c mf ma) := by
  obtain ⟨t, pt, q⟩ := ha.ex
  refine ⟨_, pe_makeL (i := i) M Fk hr hN hv hb (fun σ => pass_at tk σ) pt hdb hcd he hpl, fun F G H sd σ Q S h => ?_⟩
  unfold mMakeV at h
  split at h
  · rename_i c' e1
    split at h
    · rename_i hc
      subst hc
      refine ⟨?_, make_sem hm q S h⟩
      cases e2 : sd[i]? with
      | none => rw [e2] at e1; cases e1
      | some s =>
        rw [e2] at e1
        cases e1
        obtain ⟨v, h1, h2⟩ := S.slot i _ e2
        cases h2 with
        | fn g =>
          have g : X.mg c' = _ := g
          rw [hm] at g
          cases g
          exact h1
    · exact h.elim
  · exact h.elim
end
end Av

/-! an own object is gone over: __iter__ gives iter(self.f), f a tuple -/
namespace Av
open PySem PySem.Spec PyProof.Rows L2
/-- an iterator over the tuple at l, nothing taken yet -/
def ItT (l it : Addr) : HO := .ext fun h => h.IsTupleIter it l 0
theorem itT_ok {P : Program} {w : World} {H : Hp} {h : Heap} {l it : Addr} (e : h.IsTupleIter it l 0) : ObjOk P w H h it (ItT l it) := by
  obtain ⟨o, ho, hc, hd⟩ := id e
  exact ⟨e, ⟨_, ho⟩, fun h1 h2 q k => q.at fun o e => k _ e⟩
def rIterT (K : PySem.W.Frag) (n : Nat) : List V → Hp → VK → Prop := fun xs H Q => ∃ (l : Addr) (zs : List V), xs = [.ref l] ∧ SqT K H l zs ∧ ∀ it, H it = none → n ≤ it → Q (.ref it) (upd H it (ItT l it))
theorem call_iterT {X : Cx} : CallR X (.builtin "iter") (rIterT X.K X.s_0.heap.objs.size) := by
  intro pins s σ H xs us Q I r h
  obtain ⟨l, zs, rfl, hq, q⟩ := h
  obtain rfl := Vals.ref1 r
  obtain ⟨its, rv, p, hz⟩ := I.tuple hq
  refine Calls.call_function_entry (by decide +kernel) (by decide +kernel) PySem.W.kdk_entry_iter (PySem.W.kdk_args_iter _) ?_
  unfold Builtin.«iter»
  refine wpAny_bind (m := someArgs "iter" 1 2 _) (wpAny_of_eq (a := [Value.ref l]) (by first | rfl | kernel_rfl!) ?_)
  show wpAny _ _ (pyIter (.ref l) >>= _) _ _ _
  refine wpAny_bind (wpAny_pyIter_tuple (show s.heap.IsTuple l its.toArray from p) ?_)
  have st : (s.heap.push { cls := .type "tuple_iterator", data := .fields #[.ref l, .int 0 0] }).IsTupleIter s.heap.objs.size l 0 := ⟨_, Heap.get?_push_size _ rfl, rfl, rfl⟩
  exact wpAny_pure ⟨_, rfl, .ref s.heap.objs.size, _, I.laid (t' := s.toks) (fun b u e => Heap.get?_push_of_some _ e) (Nat.le_refl _) (itT_ok st), rfl, q _ (I.hok.fresh (Nat.le_refl _)) I.sz⟩
/-- a def's run, its promise by the state at the entry -/
def RunS (P : Program) (w : World) (K : PySem.W.Frag) (mg : Str → Option Value) (base : Heap) (CX : CXT) (k : Nat) (f : Addr) (fd : FuncData) (ps : List Str) (sp : Shared → Sp) : Prop :=
  ∀ (A : Around) (outer : List Env) (s : Shared) (H : Hp) (args : Args) (us : List Value) (vs : List V) (Q : VK) (E : XK), Room k A → Env0 P w K mg base A outer s H → BindsTo s fd args (ps.zip us) → Vals vs us → sp s vs H Q E → codeAny (model P w) A (.call (.ref f) args) (CR CX outer P w H s Q E) s
theorem run_ofS {CX : CXT} {P : Program} {w : World} {K : PySem.W.Frag} {mg : Str → Option Value} {base : Heap} {k : Nat} {f : Addr} {fd : FuncData} {x qual : Str} {st : Stmt} {N ps : List Str} {sp : Shared → Sp} (F : Fun K x qual st f fd) (S : FnScope N ps (defScope st))
    (len : ∀ s vs H Q E, sp s vs H Q E → vs.length = ps.length)
    (hbody : ∀ (cdv : Value) (A : Around) (outer : List Env) (s : Shared) (H : Hp) (vs : List V) (Q : VK) (E : XK), Room k (A.deeper (envOfC qual (defScope st) s.heap.objs.size f cdv)) → sp s vs H Q E →
      ∃ t, PSs (cxOf CX P w K mg base N qual (defScope st) f cdv A outer s H E) (defBody st) t ∧ t { nx := fun _ H' => Q .non H', rt := Q } (L2.start N vs) H) :
    RunS P w K mg base CX (k + 1) f fd ps sp := by
  obtain ⟨oc, od, kV, doc, pm, an, cdv, ct, osl, rfl, lk, hcd⟩ := F.ex
  intro A outer s H args us vs Q E hr e0 hb r hsp
  have hl := len _ _ _ _ _ hsp; have KX : K.In s.heap := e0.mod.kin.keeps fun b o e => (e0.bs b o e).1
  have lim : s.heap.NoLimit := e0.mod.nolimit.keeps fun b o e => (e0.bs b o e).1; have hps := S.par
  have hkind : ∀ y ∈ ps.zip us, (defScope st).names.lookup y.1 = some .local ∨ ((defScope st).names.lookup y.1 = some .cell ∧ ((cellsFrom (s.heap.objs.size + 1) (defScope st).names []).lookup y.1).isSome = true) := by
    rintro ⟨n, v⟩ hy
    rcases hps n (List.of_mem_zip hy).1 with q | q; · exact .inl q
    exact .inr ⟨q, PySem.W.cellsFrom_some _ _ _ (.inl q)⟩
  refine codeAny_call_function hr.depth (KX _ _ lk) rfl S.co S.gen rfl (PySem.W.codeRec_of KX hcd) (hb _ _ _ _ (wpAny_newFunctionEnv_cells S.kind hkind fun env he s1 x => ?_))
  subst he; refine ⟨lim.keeps x.toInCall.keep, codeAny_func ?_⟩
  obtain ⟨t, ht, hq⟩ := hbody cdv A outer s H vs Q E (hr.deeper _) hsp; have I := inv_start (CX := CX) (E := E) (qual := qual) (f := f) (cd := cdv) S hr.hd e0 hl r x
  refine wpAny_mono (ht.run [] s1 (L2.start N vs) H _ I hq) (fun fl s' hs => ?_) fun e s' hs => hs
  have fin : ∀ {σ' : L2.St} {H' : Hp} {v : V} {u : Value}, Inv (cxOf CX P w K mg base N qual (defScope st) f cdv A outer s H E) [] σ' H' s' → RelV v u → Q v H' → CE outer P w H s Q u s' := by
    intro σ' H' v u J rv q; exact ⟨v, H', J.os, J.bare, J.base, J.hok, rv, q⟩
  cases fl with
  | ret u => obtain ⟨v, σ', H', J, rv, q⟩ := hs; exact fin J rv q
  | next => obtain ⟨σ', H', J, q⟩ := hs; exact fin (v := V.non) (u := Value.none) J rfl q
  | brk => obtain ⟨_, _, _, q⟩ := hs; exact False.elim q
  | cont => obtain ⟨_, _, _, q⟩ := hs; exact False.elim q
/-- what such an __iter__ promises -/
def spIt (K : PySem.W.Frag) (C : Addr) (f : Str) (s : Shared) : Sp := fun vs H Q _ => ∃ a dx fs l zs, vs = [.ref a] ∧ H a = some (.ins C dx fs) ∧ fs.lookup f = some (.ref l) ∧ SqT K H l zs ∧ ∀ it, H it = none → s.heap.objs.size ≤ it → Q (.ref it) (upd H it (ItT l it))
theorem iter_def {CX : CXT} {P : Program} {w : World} {K : PySem.W.Frag} {mg : Str → Option Value} {base : Heap} {k : Nat} {fa C : Addr} {fd : FuncData} {x qual f : Str} {st : Stmt} {N : List Str} {p1 p2 p3 p4 p5 : Pos} (F : Fun K x qual st fa fd) (S : FnScope N ["self"] (defScope st))
    (hb : defBody st = [.Return (some (.Call (.Name "iter" p1) [.Attribute (.Name "self" p2) f p3] [] p4)) p5]) (hN : N[0]? = some ("self" : Str)) (c : Cls K C) (n : NoAttr K C f) (hm : mg "iter" = none)
    (hg : ∀ s cdv A outer H E, Gl (cxOf CX P w K mg base N qual (defScope st) fa cdv A outer s H E) "iter") (hv : ∀ s cdv A outer H E, Vis (cxOf CX P w K mg base N qual (defScope st) fa cdv A outer s H E).env.scope "self") :
    RunS P w K mg base CX (k + 1) fa fd ["self"] (spIt K C f) := by
  refine run_ofS F S (fun s vs H Q E h => ?_) fun cdv A outer s H vs Q E hr h => ?_
  · obtain ⟨a, dx, fs, l, zs, e, _⟩ := h
    rw [e]; rfl
  · obtain ⟨a, dx, fs, l, zs, rfl, ea, hl, hq, q⟩ := h
    rw [hb]
    refine ⟨_, pss_one (ps_ret (pe_callB (call_iterT (X := cxOf CX P w K mg base N qual (defScope st) fa cdv A outer s H E)) (hg s cdv A outer H E) hm (by rfl) (pa_cons (pe_fld (pe_var (i := 0) hN (hv s cdv A outer H E) (by decide) (by decide)) rfl) pa_nil rfl) (by decide) (by decide) rfl rfl)), ?_⟩
    exact ⟨.ref a, rfl, a, C, dx, fs, .ref l, rfl, ea, c, n, hl, l, zs, rfl, hq, q⟩
/-- a class whose objects are gone over so -/
structure OwnIt (P : Program) (w : World) (K : PySem.W.Frag) (mg : Str → Option Value) (base : Heap) (k : Nat) (c f : Str) : Prop where
  ex : ∃ C fi fd, mg c = some (.ref C) ∧ PySem.W.findIn K (.ref C) "__iter__" = some (some (.ref fi)) ∧ PySem.W.isFn K (.ref fi) = true ∧ Binds K fd ["self"] [] ∧ RunS P w K mg base (fun _ _ _ _ _ _ => False) k fi fd ["self"] (spIt K C f) ∧ PySem.W.findIn K (.ref C) "__contains__" = some none
section
variable {X : Cx} {pins : List (Addr × Obj)} {σ : L2.St} {H : Hp} {s : Shared} {a C fi dx l : Addr} {fs : List (Str × V)} {zs : List V} {f : Str} {fd : FuncData} {k : Nat}
/-- the iterator of such an object -/
theorem own_iter {Q : Value → Shared → Prop} {E : Value → Shared → Prop} (I : Inv X pins σ H s) (hr : Room k X.A) (h1 : PySem.W.findIn X.K (.ref C) "__iter__" = some (some (.ref fi))) (h2 : PySem.W.isFn X.K (.ref fi) = true) (hb : Binds X.K fd ["self"] [])
    (F : RunS X.prog X.w X.K X.mg X.base (fun _ _ _ _ _ _ => False) k fi fd ["self"] (spIt X.K C f)) (ha : H a = some (.ins C dx fs)) (hl : fs.lookup f = some (.ref l)) (hq : SqT X.K H l zs)
    (h : ∀ it s', Inv X pins σ H s' → FpOk X pins H it → s'.heap.IsTupleIter it l 0 → Q (.ref it) s') : wpAny (model X.prog X.w) X.A (pyIter (.ref a)) Q E s := by
  obtain ⟨mA, J, _⟩ := ins_get I.hok ha
  obtain ⟨od, J, _⟩ := J.look
  obtain ⟨m0, hF⟩ := I.fr
  refine PySem.W.owit_iter hF I.ok.mod.kin J h1 h2 ?_
  have b := hb s [.ref a] I.kIn rfl
  refine wpAny_call (codeAny_mono (F X.A X.stack s H ⟨[.ref a], []⟩ [.ref a] [.ref a] (fun v H' => ∃ it, v = .ref it ∧ H it = none ∧ s.heap.objs.size ≤ it ∧ H' = upd H it (ItT l it)) (fun _ _ _ => False) hr I.env0 (by rw [List.append_nil] at b; exact b) (.cons rfl .nil) ⟨a, dx, fs, l, zs, rfl, ha, hl, hq, fun it e1 e2 => ⟨it, rfl, e1, e2, rfl⟩⟩) fun r s' hq' => ?_)
  cases r with
  | error e => exact False.elim hq'
  | ok fl =>
    cases fl with
    | next => exact False.elim hq'
    | brk => exact False.elim hq'
    | cont => exact False.elim hq'
    | ret u =>
      obtain ⟨v, H', I', rv, it, rfl, e1, e2, rfl⟩ := I.after hq'
      obtain rfl : u = Value.ref it := rv
      have st : s'.heap.IsTupleIter it l 0 := (I'.hok it _ upd_same).1
      have I2 := ItX.inv_drop I' (show upd H it (ItT l it) it = some (.ext fun h => h.IsTupleIter it l 0) from upd_same)
      have fp := ItX.inv_fp I' (u := ItT l it) upd_same (Nat.le_trans I.sz e2)
      rw [ItX.dropH_upd e1] at I2 fp
      unfold PySem.W.OwitIt
      exact wpAny_specialOf (name := Str.ofString "__next__") st.typeIs PySem.F.slot_tuple_iterator_next.lookup (h it s' I2 fp st)

theorem plain_ci : plainId "proto.contains_iter" = true := by decide +kernel
theorem entry_ci : entryFor table "proto.contains_iter" = some Builtin.«proto.contains_iter» := entryFor_of_fast (by kernel_rfl)
theorem str_beq (x y : Str) : (x.cps.toList == y.cps.toList) = (x == y) := by
  by_cases h : x = y
  · subst h; simp
  · have h2 : x.cps.toList ≠ y.cps.toList := fun e => h (by cases x; cases y; simp at e; rw [e])
    rw [beq_false_of_ne h, beq_false_of_ne h2]
theorem contains_it {it : Addr} {ks : List Str} {x : Str} {t : Tok} (hc : X.calm = true) (hq : SqT X.K H l (ks.map V.str)) (fp : FpOk X pins H it) : ∀ (n i : Nat) (s : Shared), ks.length - i = n → Inv X pins σ H s → s.heap.IsTupleIter it l i →
    codeAny (model X.prog X.w) X.A (.builtin "proto.contains_iter" ⟨[.ref it, .str x t], []⟩) (fun r s' => match r with | .ok (.ret v) => v = .bool ((ks.drop i).any (· == x)) ∧ Inv X pins σ H s' | _ => False) s
  | n, i, s, hn, I, st => by
    obtain ⟨its, rv, p, hz⟩ := I.tuple hq
    have hlen : its.length = ks.length := by have := rv.length; simpa using this.symm
    obtain ⟨f0, f1, f2, f3, f4, f5⟩ := fp
    refine codeAny_builtin entry_ci ?_
    rw [Around.under_plainId plain_ci _]
    show wpAny _ _ (pyNext (.ref it) >>= _) _ _ s
    by_cases hi : i < ks.length
    · obtain ⟨u, hu, ru⟩ := rv.get (show (ks.map V.str)[i]? = some (.str ks[i]) by simp [hi])
      obtain ⟨t', rfl⟩ := ru
      refine wpAny_bind (wpAny_pyNext_tuple_item st (show s.heap.IsTuple l its.toArray from p) (x := .str ks[i] t') (by simpa using hu) fun h' st' sb => ?_)
      have I1 : Inv X pins σ H { s with heap := h' } := I.turned (t' := s.toks) (fun b o hb e => (sb.2 b hb).trans e) f0 f1 f3 f4 f5
      show wpAny _ _ (eqBool (.str ks[i] t') (.str x t) >>= _) _ _ _
      refine wpAny_bind (SeqRoads2.EqGives.str ks[i] x t' t X.prog X.w _ _ _ _ ?_)
      rw [str_beq]
      have hd : ks.drop i = ks[i] :: ks.drop (i + 1) := List.drop_eq_getElem_cons hi
      cases hb : (ks[i] == x) with
      | true =>
        show wpAny _ _ (rule "in.by-iteration.found" >>= _) _ _ _
        refine wpAny_bind (wpAny_rule (wpAny_pure ⟨?_, I1⟩))
        rw [hd, List.any_cons, hb]; rfl
      | false =>
        show wpAny _ _ (again (.builtin "proto.contains_iter" ⟨[.ref it, .str x t], []⟩)) _ _ _
        refine wpAny_pure ⟨plainId_quiet plain_ci _, ?_⟩
        have := contains_it (x := x) (t := t) hc hq ⟨f0, f1, f2, f3, f4, f5⟩ (ks.length - (i + 1)) (i + 1) { s with heap := h' } rfl I1 st'
        rw [hd, List.any_cons, hb, Bool.false_or]
        exact this
    · refine wpAny_bind (wpAny_pyNext_tuple_end (I.ok.hd hc) st (show s.heap.IsTuple l its.toArray from p) (by simp; omega) fun h' eb => ?_)
      show wpAny _ _ (rule "in.by-iteration.exhausted" >>= _) _ _ _
      refine wpAny_bind (wpAny_rule (wpAny_pure ⟨?_, I.turned (t' := s.toks) (fun b o hb e => eb b o hb e) f0 f1 f3 f4 f5⟩))
      rw [List.drop_eq_nil_of_le (by omega)]; rfl
  termination_by n => n
  decreasing_by omega
theorem own_contains {ks : List Str} {x : Str} {t : Tok} {Q : Bool → Shared → Prop} (hc : X.calm = true) (I : Inv X pins σ H s) (hr : Room k X.A) (h1 : PySem.W.findIn X.K (.ref C) "__iter__" = some (some (.ref fi))) (h2 : PySem.W.isFn X.K (.ref fi) = true) (hb : Binds X.K fd ["self"] [])
    (F : RunS X.prog X.w X.K X.mg X.base (fun _ _ _ _ _ _ => False) k fi fd ["self"] (spIt X.K C f)) (h3 : PySem.W.findIn X.K (.ref C) "__contains__" = some none) (ha : H a = some (.ins C dx fs)) (hl : fs.lookup f = some (.ref l)) (hq : SqT X.K H l (ks.map V.str))
    (h : ∀ s', Inv X pins σ H s' → Q (ks.any (· == x)) s') : wpAny (model X.prog X.w) X.A (contains (.ref a) (.str x t)) Q X.xe s := by
  obtain ⟨mA, J, _⟩ := ins_get I.hok ha
  obtain ⟨od, J, _⟩ := J.look
  unfold contains
  refine wpAny_holding ?_
  have e0 : stdlibNamesSay? (.ref a) (.str x t) = none := rfl
  rw [e0]
  refine wpAny_bind (wpAny_bind (J.type.here ((PySem.W.looks_findIn I.kIn h3).here ?_)))
  show wpAny _ _ (callSpecialUnlessNone? (.ref a) "__contains__" [.str x t] _ >>= _) _ _ _
  unfold callSpecialUnlessNone?
  refine wpAny_bind (wpAny_bind (wpAny_bind (J.type.here ((PySem.W.looks_findIn I.kIn h3).here (wpAny_pure ?_)))))
  show wpAny _ _ (rule "in.by-iteration" >>= _) _ _ _
  refine wpAny_bind (wpAny_rule ?_)
  refine wpAny_bind (wpAny_tryCatch (own_iter I hr h1 h2 hb F ha hl hq fun it s' I' fp st => ?_))
  refine wpAny_bind (wpAny_runValue (codeAny_mono (contains_it hc hq fp _ 0 s' rfl I' st) fun r s2 hq2 => ?_))
  cases r with
  | error e => exact False.elim hq2
  | ok fl =>
    cases fl with
    | next => exact False.elim hq2
    | brk => exact False.elim hq2
    | cont => exact False.elim hq2
    | ret u =>
      obtain ⟨rfl, I2⟩ := hq2
      exact wpAny_pure (h s2 I2)
end
end Av

/-! for over an own object, x in an own object: by data -/
namespace Av
open PySem PySem.Spec PyProof.Rows L2
def iOwn (K : PySem.W.Frag) (C : Addr) (f : Str) (ta : TE) : TI := fun σ H R => ta σ H fun x H1 => ∃ a dx fs l zs, x = .ref a ∧ H1 a = some (.ins C dx fs) ∧ fs.lookup f = some (.ref l) ∧ SqT K H1 l zs ∧ R (Itt K l) H1
def tupItems : RV → Option (List RV)
  | .val (.tup ds) => some (ds.map .val)
  | .bval (.tup ds) => some (ds.map fun d => if d.imm then .val d else .bval d)
  | _ => none
/-- the items that the object gives -/
def ownItems (c f : Str) (sd : List SV) (r : RV) : Option (List RV) := (r.d? sd).bind fun d => d.obj?.bind fun p => if p.1 = c then (dFld p.2 f).bind fun x => (elemOf sd r x).bind tupItems else none
def mOwnIt (c f : Str) (ma : M RV) : M (List RV) := mBind ma fun r => mBind (mSettle r) fun r => fun sd => mGet (ownItems c f sd r.keep) sd
theorem tup_items {W : Wd} {fx : Fx} {F G H : Hp} {sd : List SV} {σ : L2.St} {r : RV} {v : V} {items : List RV} (S : SR W fx F G H sd σ) (q : RVR W fx F G H sd σ r v) (h : tupItems r = some items) :
    ∃ a vs, v = .ref a ∧ SqT W.K G a vs ∧ items.length = vs.length ∧ ∀ (fx : Fx) (i : Nat) r x F' G' H' sd' σ', items[i]? = some r → vs[i]? = some x → Same F F' → Same G G' → SR W fx F' G' H' sd' σ' → RVR W fx F' G' H' sd' σ' r x := by
  unfold tupItems at h
  split at h
  · cases h
    obtain ⟨a, vs, rfl, h1, h2⟩ := Rep.tup_inv q
    refine ⟨a, vs, rfl, sqT_keep S.fg h1, by simp [h2.n], fun fx i r x F' G' H' sd' σ' e1 e2 e3 e4 S' => ?_⟩
    rw [List.getElem?_map, Option.map_eq_some_iff] at e1
    obtain ⟨d, ed, rfl⟩ := e1
    exact Rep.keep e3 (h2.r i d x ed e2)
  · cases h
    obtain ⟨a, vs, rfl, h1, h2⟩ := Rep.tup_inv q
    refine ⟨a, vs, rfl, h1, by simp [h2.n], fun fx i r x F' G' H' sd' σ' e1 e2 e3 e4 S' => ?_⟩
    rw [List.getElem?_map, Option.map_eq_some_iff] at e1
    obtain ⟨d, ed, rfl⟩ := e1
    have q := (h2.r i d x ed e2).keep e4
    show RVR W fx F' G' H' sd' σ' (if d.imm then .val d else .bval d) x
    split
    · rename_i hi; exact Rep.imm S'.tup (q.keep S'.gh) hi
    · exact q
  · cases h
section
variable {fx : Fx} {X : Cx} {Wx : WX} {tg e : Expr} {k j : Nat} {c f : Str}
theorem si_own {ma : M RV} (O : OwnIt X.prog X.w X.K X.mg X.base k c f) (hr : Room j X.A) (ha : SE fx X Wx e ma) (hkj : k ≤ j := by decide) : SI fx X Wx tg e (mOwnIt c f ma) := by
  obtain ⟨C, fi, fd, hm, h1, h2, hb, Fi, h3⟩ := O.ex
  obtain ⟨ta, pa, qa⟩ := ha.ex
  refine ⟨iOwn X.K C f ta, ⟨fun pins s σ H R I h => thn (pa.run pins s σ H _ I h) fun u s1 hu => ?_⟩, fun F G H sd σ Rj S h => oneI qa S h fun F1 G1 H1 sd1 ra v e1 e2 S1 r1 h => ?_⟩
  · obtain ⟨x, H1, I1, rx, a, dx, fs, l, zs, rfl, ea, hl, hq, q⟩ := hu
    obtain rfl : u = Value.ref a := rx
    refine own_iter I1 (hr.mono hkj) h1 h2 hb Fi ea hl hq fun it s' I' fp st => ⟨it, [it], _, _, H1, rfl, I', turn_tuple l it, st, fun b hb => ?_, q⟩
    have e : b = it := by simpa using hb
    rw [e]; exact fp
  · obtain ⟨r', sd2, F2, G2, e3, e4, S2, p2, h⟩ := h.settle S1 r1
    unfold mGet at h
    cases ei : ownItems c f sd2 r'.keep with
    | none => rw [ei] at h; exact h.elim
    | some items =>
      rw [ei] at h
      unfold ownItems at ei
      rw [Option.bind_eq_some_iff] at ei
      obtain ⟨d, d1, ei⟩ := ei
      rw [Option.bind_eq_some_iff] at ei
      obtain ⟨⟨c', ds⟩, d2, ei⟩ := ei
      rw [obj?_some d2] at d1
      split at ei
      · rename_i hcc
        have hcc : c' = c := hcc
        rw [hcc] at d1
        rw [Option.bind_eq_some_iff] at ei
        obtain ⟨x, d3, ei⟩ := ei
        rw [Option.bind_eq_some_iff] at ei
        obtain ⟨rv, d4, d5⟩ := ei
        obtain ⟨F3, G3, g3, g4, S3, p3⟩ := p2.keep S2
        have low : ∀ J, Same J H1 → Rep (wd X) J (.obj c ds) v → ∃ w, (∃ a dx fs, v = .ref a ∧ H1 a = some (.ins C dx fs) ∧ fs.lookup f = some w) ∧ Rep (wd X) J x w := fun J s r => by
          obtain ⟨a, C', dx, fs, rfl, q1, q2, q3⟩ := rep_obj r
          have q2 : X.mg c = some (.ref C') := q2
          rw [hm] at q2; cases q2
          obtain ⟨w, q4, q5⟩ := q3.val d3
          exact ⟨w, ⟨a, dx, fs, rfl, s _ _ q1, q4⟩, q5⟩
        have own : ∀ p, v = .ref p → OwnO (wd X) F3 H1 p (.obj c ds) → ∃ w, (∃ a dx fs, v = .ref a ∧ H1 a = some (.ins C dx fs) ∧ fs.lookup f = some w) ∧ Rep (wd X) F3 x w := fun p e r => by
          obtain ⟨C', dx, fs, q1, q2, q3⟩ := own_obj r
          have q2 : X.mg c = some (.ref C') := q2
          rw [hm] at q2; cases q2
          obtain ⟨w, q4, q5⟩ := q3.val d3
          exact ⟨w, ⟨p, dx, fs, e, q1, q4⟩, q5⟩
        obtain ⟨w, ⟨a, dx, fs, rfl, q1, q2⟩, q3⟩ := RVR.part (P := fun v w => ∃ a dx fs, v = V.ref a ∧ H1 a = some (.ins C dx fs) ∧ fs.lookup f = some w) (d := x) S3 p3 d1 low own d4
        obtain ⟨l, vs, rfl, t1, t2, t3⟩ := tup_items S3 q3 d5
        refine ⟨a, dx, fs, l, vs, rfl, q1, q2, sqT_keep S3.gh t1, h F3 G3 H1 _ g3 g4 S3 fun fx3 i F4 G4 H4 sd4 σ4 i1 i2 S4 => ?_⟩
        have hq := sqT_keep S4.gh (sqT_keep i2 t1)
        refine ⟨fun e => ⟨vs, hq, by omega⟩, fun r er => ?_⟩
        have hi : i < vs.length := by rw [← t2]; exact (List.getElem?_eq_some_iff.mp er).1
        refine ⟨⟨vs, vs[i], hq, List.getElem?_eq_getElem hi⟩, fun x H5 y => ?_⟩
        obtain ⟨rfl, y⟩ := y
        exact ⟨F4, G4, Same.refl _, Same.refl _, S4, t3 fx3 i r x F4 G4 _ sd4 σ4 er (y vs hq) i1 i2 S4⟩
      · cases ei
def D.str? : D → Option Str
  | .str x => some x
  | _ => none
def strsOf : List D → Option (List Str)
  | [] => some []
  | d :: r => d.str?.bind fun x => (strsOf r).map fun xs => x :: xs
theorem strsOf_rep {W : Wd} {H : Hp} : ∀ {ds : List D} {ks : List Str} {vs : List V}, strsOf ds = some ks → RepL W H ds vs → vs = ks.map V.str
  | [], ks, vs, h, r => by cases h; exact r.nil_inv
  | d :: ds, ks, vs, h, r => by
    unfold strsOf at h
    rw [Option.bind_eq_some_iff] at h
    obtain ⟨x, h1, h⟩ := h
    rw [Option.map_eq_some_iff] at h
    obtain ⟨xs, h2, rfl⟩ := h
    obtain ⟨v, ws, rfl, r1, r2⟩ := r.cons_inv
    cases d <;> cases h1
    rw [r1.str_inv, strsOf_rep h2 r2]; rfl
def gInOwn (neg : Bool) (c f : Str) : D → D → Option RV
  | .str x, .obj c' fs => if c' = c then match dFld fs f with
    | some (.tup ys) => (strsOf ys).map fun ks => .val (.bl (neg.xor (ks.any (· == x))))
    | _ => none
    else none
  | _, _ => none
def rInOwn (X : Cx) (C : Addr) (f : Str) (neg : Bool) : R2 := fun x y H Q => ∃ (z : Str) (a dx : Addr) (fs : List (Str × V)) (l : Addr) (ks : List Str), x = .str z ∧ y = .ref a ∧ H a = some (.ins C dx fs) ∧ fs.lookup f = some (.ref l) ∧ SqT X.K H l (ks.map V.str) ∧ Q (.bl (neg.xor (ks.any (· == z)))) H
theorem os_inOwn (neg : Bool) (hc : X.calm = true) (O : OwnIt X.prog X.w X.K X.mg X.base k c f) (hr : Room j X.A) (hkj : k ≤ j := by decide) : OpS fx X (compareOp (if neg then .NotIn else .In)) (gInOwn neg c f) := by
  obtain ⟨C, fi, fd, hm, h1, h2, hb, Fi, h3⟩ := O.ex
  refine ⟨rInOwn X C f neg, fun pins s σ H x y v u Q I rx ry h => ?_, fun F G H sd σ x y v u rv Q S r1 r2 h k => ?_⟩
  · obtain ⟨z, a, dx, fs, l, ks, rfl, rfl, ea, hl, hq, q⟩ := h
    obtain ⟨t, rfl⟩ := rx
    obtain rfl : u = Value.ref a := ry
    cases neg with
    | true =>
      show wpAny _ _ (do return Value.bool (!(← contains (.ref a) (.str z t)))) _ _ _
      refine wpAny_bind (own_contains hc I (hr.mono hkj) h1 h2 hb Fi h3 ea hl hq fun s' I' => wpAny_pure ⟨.bl _, H, I', rfl, ?_⟩)
      simpa using q
    | false =>
      show wpAny _ _ (do return Value.bool (← contains (.ref a) (.str z t))) _ _ _
      refine wpAny_bind (own_contains hc I (hr.mono hkj) h1 h2 hb Fi h3 ea hl hq fun s' I' => wpAny_pure ⟨.bl _, H, I', rfl, ?_⟩)
      simpa using q
  · unfold gInOwn at h
    split at h
    · rename_i z c' ds
      split at h
      · rename_i hcc
        subst hcc
        split at h
        · rename_i ys hf
          rw [Option.map_eq_some_iff] at h
          obtain ⟨ks, hk, rfl⟩ := h
          obtain ⟨a, C', dx, fs, rfl, q1, q2, q3⟩ := rep_obj r2
          have q2 : X.mg c' = some (.ref C') := q2
          rw [hm] at q2; cases q2
          obtain ⟨w, q4, q5⟩ := q3.val hf
          obtain ⟨l, vs, rfl, q6, q7⟩ := Rep.tup_inv q5
          rw [strsOf_rep hk q7] at q6
          exact ⟨z, a, dx, fs, l, ks, r1.str_inv, rfl, q1, q4, q6, out_flat S k (.bl _)⟩
        · cases h
      · cases h
    · cases h
theorem os_inO (hc : X.calm = true) (O : OwnIt X.prog X.w X.K X.mg X.base k c f) (hr : Room j X.A) (hkj : k ≤ j := by decide) : OpS fx X (compareOp .In) (gInOwn false c f) := os_inOwn false hc O hr hkj
theorem os_notInO (hc : X.calm = true) (O : OwnIt X.prog X.w X.K X.mg X.base k c f) (hr : Room j X.A) (hkj : k ≤ j := by decide) : OpS fx X (compareOp .NotIn) (gInOwn true c f) := os_inOwn true hc O hr hkj
end
end Av

/-! min, max, tuple * int, one sign in a text, a text gone over, targets over lists -/
namespace Av
open PySem PySem.Spec PyProof.Rows L2
section
variable {fx : Fx} {X : Cx} {Wx : WX} {e tg : Expr} {pos : Pos}
def gMax : List D → Option RV
  | [.int i, .int j] => some (.val (.int (if j > i then j else i)))
  | _ => none
def gMin : List D → Option RV
  | [.int i, .int j] => some (.val (.int (if j < i then j else i)))
  | _ => none
theorem cs_max (hc : X.calm = true) : CallS fx X (.builtin "max") gMax := by
  refine ⟨_, call_max2 hc, fun F G H sd σ ds vs rv Q S r h k => ?_⟩
  unfold gMax at h
  split at h
  · cases h
    obtain ⟨v, w, rfl, q1, q2⟩ := r.two_inv
    obtain rfl := q1.int_inv
    obtain rfl := q2.int_inv
    exact ⟨_, _, rfl, out_flat S k (.int _)⟩
  · cases h
theorem cs_min (hc : X.calm = true) : CallS fx X (.builtin "min") gMin := by
  refine ⟨_, call_min2 hc, fun F G H sd σ ds vs rv Q S r h k => ?_⟩
  unfold gMin at h
  split at h
  · cases h
    obtain ⟨v, w, rfl, q1, q2⟩ := r.two_inv
    obtain rfl := q1.int_inv
    obtain rfl := q2.int_inv
    exact ⟨_, _, rfl, out_flat S k (.int _)⟩
  · cases h
/-- xs * k -/
def gMulT : D → D → Option RV
  | .tup xs, .int k => if D.imms xs && !xs.isEmpty && decide (2 ≤ k) && decide (k ≤ 1000) && decide (xs.length ≤ 1000) then some (.val (.tup (List.replicate k.toNat xs).flatten)) else none
  | _, _ => none
theorem RepL.rep {W : Wd} {H : Hp} {ds : List D} {vs : List V} (r : RepL W H ds vs) : ∀ n : Nat, RepL W H (List.replicate n ds).flatten (List.replicate n vs).flatten
  | 0 => RepL.nil
  | n + 1 => by
    rw [List.replicate_succ, List.replicate_succ, List.flatten_cons, List.flatten_cons]
    exact r.append (r.rep n)
theorem os_mulT : OpS fx X (binaryOp .Mult) gMulT := by
  refine ⟨_, op_repT, fun F G H sd σ x y v u rv Q S r1 r2 h k => ?_⟩
  unfold gMulT at h
  split at h
  · rename_i xs j
    split at h
    · rename_i hz
      rw [Bool.and_eq_true, Bool.and_eq_true, Bool.and_eq_true, Bool.and_eq_true] at hz
      obtain ⟨⟨⟨⟨h1, h2⟩, h3⟩, h4⟩, h5⟩ := hz
      cases h
      obtain ⟨p, vs, rfl, s1, l1⟩ := r1.tup_inv
      obtain rfl := r2.int_inv
      have m1 := RepL.immF S h1 l1
      refine ⟨p, j, vs, rfl, rfl, s1, fun e => ?_, of_decide_eq_true h3, of_decide_eq_true h4, by rw [← l1.n]; exact of_decide_eq_true h5, fun w hw => out_newSh S k (m1.rep j.toNat) hw⟩
      rw [e] at l1
      have := l1.n
      cases xs with
      | nil => simp at h2
      | cons _ _ => simp at this
    · cases h
  · cases h
/-- one sign in a text -/
def gInSg (neg : Bool) : D → D → Option RV
  | .str x, .str y => match x.cps.toList with
    | [c] => some (.val (.bl (neg.xor (decide (c ∈ y.cps.toList)))))
    | _ => none
  | _, _ => none
theorem one_sign {x : Str} {c : Nat} (h : x.cps.toList = [c]) : x = ⟨#[c]⟩ := by
  cases x with
  | mk a => cases a with
    | mk l => simp at h; rw [h]
theorem os_inSg : OpS fx X (compareOp .In) (gInSg false) := by
  refine ⟨_, op_in_sign, fun F G H sd σ x y v u rv Q S r1 r2 h k => ?_⟩
  unfold gInSg at h
  split at h
  · split at h
    · rename_i x y _ c hc
      cases h
      obtain rfl := r1.str_inv
      obtain rfl := r2.str_inv
      rw [one_sign hc]
      refine ⟨c, y, rfl, rfl, ?_⟩
      simpa using out_flat S k (.bl _)
    · cases h
  · cases h
theorem os_notInSg : OpS fx X (compareOp .NotIn) (gInSg true) := by
  refine ⟨_, op_notIn_sign, fun F G H sd σ x y v u rv Q S r1 r2 h k => ?_⟩
  unfold gInSg at h
  split at h
  · split at h
    · rename_i x y _ c hc
      cases h
      obtain rfl := r1.str_inv
      obtain rfl := r2.str_inv
      rw [one_sign hc]
      refine ⟨c, y, rfl, rfl, ?_⟩
      simpa using out_flat S k (.bl _)
    · cases h
  · cases h
/-- a text's signs -/
def strItems (x : Str) : List RV := x.cps.toList.map fun c => .val (.str ⟨#[c]⟩)
def mStrIt (ma : M RV) : M (List RV) := mBind ma fun r => mBind (mSettle r) fun r => mGet (match r with
  | .val (.str x) => some (strItems x)
  | .bval (.str x) => some (strItems x)
  | _ => none)
theorem str_walks {W : Wd} {F G : Hp} (x : Str) : Walks W F G (Its x) (strItems x) := fun fx i F1 G1 H1 sd1 σ1 _ _ S1 => by
  refine ⟨fun e => ?_, fun r er => ?_⟩
  · show x.cps.size ≤ i
    unfold strItems at e
    have := e
    simp at this
    omega
  · unfold strItems at er
    rw [List.getElem?_map, Option.map_eq_some_iff] at er
    obtain ⟨c, hc, rfl⟩ := er
    have hi : i < x.cps.size := by have := (List.getElem?_eq_some_iff.mp hc).1; simpa using this
    refine ⟨hi, fun v H4 y => ?_⟩
    obtain ⟨rfl, c', h1, rfl⟩ := y
    rw [Array.getElem?_toList] at hc
    rw [h1] at hc
    cases hc
    exact ⟨F1, G1, Same.refl _, Same.refl _, S1, .str _⟩
theorem si_str {ma : M RV} (ha : SE fx X Wx e ma) : SI fx X Wx tg e (mStrIt ma) := by
  obtain ⟨t, p, q⟩ := ha.ex
  refine ⟨_, pi_str p, fun F G H sd σ Rj S h => oneI q S h fun F1 G1 H1 sd1 ra v e1 e2 S1 r1 h => ?_⟩
  obtain ⟨r', sd2, F2, G2, e3, e4, S2, p2, h⟩ := h.settle S1 r1
  unfold mGet at h
  split at h
  · rename_i items ei
    split at ei
    · rename_i x
      cases ei
      obtain rfl := Rep.str_inv p2
      exact ⟨x, rfl, h F2 G2 H1 _ (Same.refl _) (Same.refl _) S2 (str_walks x)⟩
    · rename_i x
      cases ei
      obtain rfl := Rep.str_inv p2
      exact ⟨x, rfl, h F2 G2 H1 _ (Same.refl _) (Same.refl _) S2 (str_walks x)⟩
    · cases ei
  · exact h.elim
/-- the items of a tuple or a list, as results -/
def valItems : D → Option (List RV)
  | .tup ds => some (ds.map .val)
  | .lst ds => some (ds.map .val)
  | _ => none
def borItems : D → Option (List RV)
  | .tup ds => some (ds.map fun d => if d.imm then .val d else .bval d)
  | .lst ds => some (ds.map fun d => if d.imm then .val d else .bval d)
  | _ => none
def seqOf (sd : List SV) : RV → Option (List RV)
  | .val d => valItems d
  | .fresh d => valItems d
  | .bval d => borItems d
  | .slot j => match sd[j]?.getD .no with
    | .sh d => valItems d
    | .own d => valItems d
    | .io d => valItems d
    | .bor d => borItems d
    | _ => none
theorem val_items {W : Wd} {F G H : Hp} {sd : List SV} {σ : L2.St} {d : D} {v : V} {rs : List RV} (S : SR W fx F G H sd σ) (r : Rep W F d v) (h : valItems d = some rs) :
    ∃ a vs, v = .ref a ∧ (SqT W.K H a vs ∨ SqL W.K H a vs) ∧ rs.length = vs.length ∧ ∀ (i : Nat) r v, rs[i]? = some r → vs[i]? = some v → r.keep = r ∧ (∀ j, r ≠ .slot j) ∧ RVR W fx F G H sd σ r v := by
  have key : ∀ {ds : List D} {vs : List V}, RepL W F ds vs → (ds.map RV.val).length = vs.length ∧ ∀ (i : Nat) r v, (ds.map RV.val)[i]? = some r → vs[i]? = some v → r.keep = r ∧ (∀ j, r ≠ .slot j) ∧ RVR W fx F G H sd σ r v := fun {ds vs} h2 =>
    ⟨by simp [h2.n], fun i r v e1 e2 => by
      rw [List.getElem?_map, Option.map_eq_some_iff] at e1
      obtain ⟨d, ed, rfl⟩ := e1
      exact ⟨rfl, fun j z => by (cases z), h2.r i d v ed e2⟩⟩
  cases d with
  | tup ds => cases h; obtain ⟨a, vs, rfl, h1, h2⟩ := r.tup_inv; exact ⟨a, vs, rfl, .inl (sqT_keep S.fh h1), key h2⟩
  | lst ds => cases h; obtain ⟨a, vs, rfl, h1, h2⟩ := r.lst_inv; exact ⟨a, vs, rfl, .inr (S.fh.seq h1), key h2⟩
  | _ => cases h
theorem own_items {W : Wd} {F G H : Hp} {sd : List SV} {σ : L2.St} {d : D} {p : Addr} {rs : List RV} (S : SR W fx F G H sd σ) (r : OwnO W F H p d) (h : valItems d = some rs) :
    ∃ a vs, V.ref p = .ref a ∧ (SqT W.K H a vs ∨ SqL W.K H a vs) ∧ rs.length = vs.length ∧ ∀ (i : Nat) r v, rs[i]? = some r → vs[i]? = some v → r.keep = r ∧ (∀ j, r ≠ .slot j) ∧ RVR W fx F G H sd σ r v := by
  cases d with
  | lst ds =>
    cases h
    obtain ⟨vs, h1, h2⟩ := r
    refine ⟨p, vs, rfl, .inr (SqL.of h1), by simp [h2.n], fun i r v e1 e2 => ?_⟩
    rw [List.getElem?_map, Option.map_eq_some_iff] at e1
    obtain ⟨d, ed, rfl⟩ := e1
    exact ⟨rfl, fun j z => by (cases z), h2.r i d v ed e2⟩
  | tup ds => exact r.elim
  | _ => cases h
theorem bor_items {W : Wd} {F G H : Hp} {sd : List SV} {σ : L2.St} {d : D} {v : V} {rs : List RV} (S : SR W fx F G H sd σ) (r : Rep W G d v) (h : borItems d = some rs) :
    ∃ a vs, v = .ref a ∧ (SqT W.K H a vs ∨ SqL W.K H a vs) ∧ rs.length = vs.length ∧ ∀ (i : Nat) r v, rs[i]? = some r → vs[i]? = some v → r.keep = r ∧ (∀ j, r ≠ .slot j) ∧ RVR W fx F G H sd σ r v := by
  have key : ∀ {ds : List D} {vs : List V}, RepL W G ds vs → (ds.map fun d => if d.imm then RV.val d else .bval d).length = vs.length ∧ ∀ (i : Nat) r v, (ds.map fun d => if d.imm then RV.val d else .bval d)[i]? = some r → vs[i]? = some v → r.keep = r ∧ (∀ j, r ≠ .slot j) ∧ RVR W fx F G H sd σ r v := fun {ds vs} h2 =>
    ⟨by simp [h2.n], fun i r v e1 e2 => by
      rw [List.getElem?_map, Option.map_eq_some_iff] at e1
      obtain ⟨d, ed, rfl⟩ := e1
      have q := h2.r i d v ed e2
      by_cases hi : d.imm = true
      · rw [if_pos hi]; exact ⟨rfl, fun j z => by (cases z), Rep.imm S.tup (q.keep S.gh) hi⟩
      · rw [if_neg hi]; exact ⟨rfl, fun j z => by (cases z), q⟩⟩
  cases d with
  | tup ds => cases h; obtain ⟨a, vs, rfl, h1, h2⟩ := r.tup_inv; exact ⟨a, vs, rfl, .inl (sqT_keep S.gh h1), key h2⟩
  | lst ds => cases h; obtain ⟨a, vs, rfl, h1, h2⟩ := r.lst_inv; exact ⟨a, vs, rfl, .inr (S.gh.seq h1), key h2⟩
  | _ => cases h
theorem seqOf_ok {W : Wd} {F G H : Hp} {sd : List SV} {σ : L2.St} {rv : RV} {v : V} {rs : List RV} (S : SR W fx F G H sd σ) (r : RVR W fx F G H sd σ rv v) (h : seqOf sd rv = some rs) :
    ∃ a vs, v = .ref a ∧ (SqT W.K H a vs ∨ SqL W.K H a vs) ∧ rs.length = vs.length ∧ ∀ (i : Nat) r v, rs[i]? = some r → vs[i]? = some v → r.keep = r ∧ (∀ j, r ≠ .slot j) ∧ RVR W fx F G H sd σ r v := by
  cases rv with
  | val d => exact val_items S r h
  | bval d => exact bor_items S r h
  | fresh d => obtain ⟨p, rfl, _, _, ow, _⟩ := r; exact own_items S ow h
  | slot j =>
    have r : σ[j]? = some (some v) := r
    unfold seqOf at h
    dsimp only at h
    cases e : sd[j]? with
    | none => rw [e] at h; cases h
    | some s =>
      rw [e] at h
      have k := S.slot j _ e
      cases s with
      | no => cases h
      | exn => cases h
      | sh d => obtain ⟨w, h1, h2⟩ := k; rw [r] at h1; cases h1; exact val_items S h2 h
      | bor d => obtain ⟨w, h1, h2⟩ := k; rw [r] at h1; cases h1; exact bor_items S h2 h
      | own d => obtain ⟨a, h1, h2, h3, h4⟩ := k; rw [r] at h1; cases h1; exact own_items S h4 h
      | io d => obtain ⟨a, _, h1, h2, h4⟩ := k; rw [r] at h1; cases h1; exact own_items S h4 h
def gSeqT (n : Nat) (gs : List RV → List SV → Option (List SV)) : MG := fun rv sd => (seqOf sd rv).bind fun rs => if rs.length = n then gs rs sd else none
theorem pg_or {t u : TG} (h : PG X tg t) (h' : PG X tg u) : PG X tg (fun v σ H Q => t v σ H Q ∨ u v σ H Q) := ⟨fun pins s σ H v w Q I r q => by
  rcases q with q | q
  · exact h.run pins s σ H v w Q I r q
  · exact h'.run pins s σ H v w Q I r q⟩
theorem sg_seq {es : List Expr} {kk n : Nat} {sl : List Nat} {gs : List RV → List SV → Option (List SV)} (hc : X.calm = true) (h : SGs fx X es sl gs)
    (hn : (assignEach es X.env).length = n := by rfl) (hst : (assignEach es X.env).findIdx? (·.1) = none := by rfl) : SG fx X (.Tuple es kk pos) sl (gSeqT n gs) := by
  obtain ⟨t, p, q⟩ := h.ex
  refine ⟨_, pg_or (pg_tup hc p hn hst) (pg_lst hc p hn hst), fun F G H sd sd' σ rv v Q S r h k => ?_⟩
  unfold gSeqT at h
  rw [Option.bind_eq_some_iff] at h
  obtain ⟨rs, ei, h⟩ := h
  split at h
  · rename_i hl
    obtain ⟨a, vs, rfl, h1, h2, h3⟩ := seqOf_ok S r ei
    rcases h1 with h1 | h1
    · exact .inl ⟨a, vs, rfl, h1, by rw [← h2]; exact hl, q F G H sd sd' σ rs vs Q S ⟨h2, h3⟩ h k⟩
    · exact .inr ⟨a, vs, rfl, h1, by rw [← h2]; exact hl, q F G H sd sd' σ rs vs Q S ⟨h2, h3⟩ h k⟩
  · cases h
end
end Av

/-! classes and own errors, as the printed derivations use them -/
namespace Av
open PySem PySem.Spec PyProof.Rows L2 ClX
/-- the text of a def that is no name of the module -/
structure SrcM (K : PySem.W.Frag) (x qual : Str) (st : Stmt) (ps : List Str) (f : Addr) : Prop where
  ex : ∃ fd, Fun K x qual st f fd ∧ Binds K fd ps []
/-- an error class of the module -/
structure Er (P : Program) (K : PySem.W.Frag) (mg : Str → Option Value) (nm f t : Str) : Prop where
  ex : ∃ C fI cc cda, ErrTxt P K mg nm f t C fI cc cda
/-- a class whose objects can be made -/
structure CanMk (P : Program) (w : World) (K : PySem.W.Frag) (mg : Str → Option Value) (base : Heap) (k : Nat) (c : Str) (mf : MF) : Prop where
  ex : ∃ C f fd ps, mg c = some (.ref C) ∧ Mk K C f ∧ FnOk P w K mg base (L2N.CX P w) k f fd ps (spD ⟨K, mg⟩ [0] mf) ∧ Binds K fd ps []
/-- a property -/
structure CanPr (P : Program) (w : World) (K : PySem.W.Frag) (mg : Str → Option Value) (base : Heap) (k : Nat) (c f : Str) (mf : MF) : Prop where
  ex : ∃ C p g fd ps, mg c = some (.ref C) ∧ Cls K C ∧ PropOf K C f p g ∧ FnOk P w K mg base (L2N.CX P w) k g fd ps (spD ⟨K, mg⟩ [] mf) ∧ Binds K fd ps []
/-- a method -/
structure CanMe (P : Program) (w : World) (K : PySem.W.Frag) (mg : Str → Option Value) (base : Heap) (k : Nat) (c m : Str) (ios : List Nat) (mf : MF) : Prop where
  ex : ∃ C f fd ps, mg c = some (.ref C) ∧ Cls K C ∧ Meth K C m f ∧ FnOk P w K mg base (L2N.CX P w) k f fd ps (spD ⟨K, mg⟩ ios mf) ∧ Binds K fd ps []
/-- a classmethod -/
structure CanCm (P : Program) (w : World) (K : PySem.W.Frag) (mg : Str → Option Value) (base : Heap) (k : Nat) (c m : Str) (ios : List Nat) (mf : MF) : Prop where
  ex : ∃ C mc pr g fd ps, mg c = some (.ref C) ∧ CRead K C mc ∧ CMet K C mc m pr g ∧ FnOk P w K mg base (L2N.CX P w) k g fd ps (spD ⟨K, mg⟩ ios mf) ∧ Binds K fd ps []
/-- a constant of a class -/
structure ClsC (K : PySem.W.Frag) (mg : Str → Option Value) (c f : Str) (d : D) : Prop where
  ex : ∃ C mc v u, mg c = some (.ref C) ∧ CRead K C mc ∧ CVal K C mc f v u ∧ ∀ F, Rep ⟨K, mg⟩ F d v
section
variable {P : Program} {w : World} {K : PySem.W.Frag} {mg : Str → Option Value} {base : Heap} {k : Nat} {c m x qual : Str} {st : Stmt} {N ps : List Str} {ios : List Nat} {body : MS} {C f pr g : Addr} {mc : Value}
theorem fn_okM {fd : FuncData} (F : Fun K x qual st f fd) (S : FnScope N ps (defScope st))
    (hbody : ∀ (f : Addr) (cdv : Value) (A : Around) (outer : List Env) (s : Shared) (H : Hp) (E : XK) (fx : Fx), Room k (A.deeper (envOfC qual (defScope st) s.heap.objs.size f cdv)) →
      SSs fx (cxOf (L2N.CX P w) P w K mg base N qual (defScope st) f cdv A outer s H E) (fun c d _ H => E c d H) (defBody st) body) :
    FnOk P w K mg base (L2N.CX P w) (k + 1) f fd ps (spD ⟨K, mg⟩ ios (mDef ps.length N.length ios body)) := def_ok F S (hbody f)
theorem CanMk.of (hc : mg c = some (.ref C)) (M : Mk K C f) (F : SrcM K x qual st ps f) (S : FnScope N ps (defScope st))
    (hbody : ∀ (f : Addr) (cdv : Value) (A : Around) (outer : List Env) (s : Shared) (H : Hp) (E : XK) (fx : Fx), Room k (A.deeper (envOfC qual (defScope st) s.heap.objs.size f cdv)) →
      SSs fx (cxOf (L2N.CX P w) P w K mg base N qual (defScope st) f cdv A outer s H E) (fun c d _ H => E c d H) (defBody st) body) : CanMk P w K mg base (k + 1) c (mDef ps.length N.length [0] body) := by
  obtain ⟨fd, h1, h2⟩ := F.ex
  exact ⟨C, f, fd, ps, hc, M, fn_okM h1 S hbody, h2⟩
theorem CanPr.of {y : Str} (hc : mg c = some (.ref C)) (hC : Cls K C) (hp : PropOf K C y pr f) (F : SrcM K x qual st ps f) (S : FnScope N ps (defScope st))
    (hbody : ∀ (f : Addr) (cdv : Value) (A : Around) (outer : List Env) (s : Shared) (H : Hp) (E : XK) (fx : Fx), Room k (A.deeper (envOfC qual (defScope st) s.heap.objs.size f cdv)) →
      SSs fx (cxOf (L2N.CX P w) P w K mg base N qual (defScope st) f cdv A outer s H E) (fun c d _ H => E c d H) (defBody st) body) : CanPr P w K mg base (k + 1) c y (mDef ps.length N.length [] body) := by
  obtain ⟨fd, h1, h2⟩ := F.ex
  exact ⟨C, pr, f, fd, ps, hc, hC, hp, fn_okM h1 S hbody, h2⟩
theorem CanMe.of (hc : mg c = some (.ref C)) (hC : Cls K C) (hm : Meth K C m f) (F : SrcM K x qual st ps f) (S : FnScope N ps (defScope st))
    (hbody : ∀ (f : Addr) (cdv : Value) (A : Around) (outer : List Env) (s : Shared) (H : Hp) (E : XK) (fx : Fx), Room k (A.deeper (envOfC qual (defScope st) s.heap.objs.size f cdv)) →
      SSs fx (cxOf (L2N.CX P w) P w K mg base N qual (defScope st) f cdv A outer s H E) (fun c d _ H => E c d H) (defBody st) body) : CanMe P w K mg base (k + 1) c m ios (mDef ps.length N.length ios body) := by
  obtain ⟨fd, h1, h2⟩ := F.ex
  exact ⟨C, f, fd, ps, hc, hC, hm, fn_okM h1 S hbody, h2⟩
theorem CanCm.of (hc : mg c = some (.ref C)) (hr : CRead K C mc) (hm : CMet K C mc m pr f) (F : SrcM K x qual st ps f) (S : FnScope N ps (defScope st))
    (hbody : ∀ (f : Addr) (cdv : Value) (A : Around) (outer : List Env) (s : Shared) (H : Hp) (E : XK) (fx : Fx), Room k (A.deeper (envOfC qual (defScope st) s.heap.objs.size f cdv)) →
      SSs fx (cxOf (L2N.CX P w) P w K mg base N qual (defScope st) f cdv A outer s H E) (fun c d _ H => E c d H) (defBody st) body) : CanCm P w K mg base (k + 1) c m ios (mDef ps.length N.length ios body) := by
  obtain ⟨fd, h1, h2⟩ := F.ex
  exact ⟨C, mc, pr, f, fd, ps, hc, hr, hm, fn_okM h1 S hbody, h2⟩
theorem OwnIt.of {y : Str} {p1 p2 p3 p4 p5 : Pos} (hc : mg c = some (.ref C)) (hi : PySem.W.findIn K (.ref C) "__iter__" = some (some (.ref f))) (hf : PySem.W.isFn K (.ref f) = true) (hn : PySem.W.findIn K (.ref C) "__contains__" = some none) (F : SrcM K x qual st ["self"] f) (S : FnScope N ["self"] (defScope st))
    (hb : defBody st = [.Return (some (.Call (.Name "iter" p1) [.Attribute (.Name "self" p2) y p3] [] p4)) p5]) (hN : N[0]? = some ("self" : Str)) (hC : Cls K C) (n : NoAttr K C y) (hm : mg "iter" = none)
    (hg : ∀ s cdv A outer H E, Gl (cxOf (fun _ _ _ _ _ _ => False) P w K mg base N qual (defScope st) f cdv A outer s H E) "iter") (hv : ∀ s cdv A outer H E, Vis (cxOf (fun _ _ _ _ _ _ => False) P w K mg base N qual (defScope st) f cdv A outer s H E).env.scope "self") :
    OwnIt P w K mg base (k + 1) c y := by
  obtain ⟨fd, h1, h2⟩ := F.ex
  exact ⟨C, f, fd, hc, hi, hf, h2, iter_def h1 S hb hN hC n hm hg hv, hn⟩
end
section
variable {fx : Fx} {X : Cx} {Wx : WX} {e a : Expr} {es : List Expr} {pos pos2 p p1 apos : Pos} {k j i : Nat} {c f m x y t nm : Str} {mf : MF} {ma : M RV} {mas : M (List RV)} {ios : List Nat}
theorem se_mk (C : CanMk X.prog X.w X.K X.mg X.base k x mf) (tk : L2N.Takes X Wx) (hr : Room j X.A) (ha : SA fx X Wx (e :: es) mas) (hkj : k + 1 ≤ j := by decide) (hg : Gl X x := by rfl) (hdb : (x == ("__debug__" : Str)) = false := by decide) (he : starEach (e :: es) X.env = (false, eval e X.env) :: starEach es X.env := by rfl) (hpl : (backTo pos (starEach es X.env)).any (·.1) = false := by rfl) :
    SE fx X Wx (.Call (.Name x p) (e :: es) [] pos) (mMake x mf mas) := by
  obtain ⟨C, f, fd, ps, h1, h2, h3, h4⟩ := C.ex
  exact se_make h2 h3 tk (hr.mono hkj) hg h1 h4 ha hdb he hpl
theorem se_mkV (C : CanMk X.prog X.w X.K X.mg X.base k c mf) (tk : L2N.Takes X Wx) (hr : Room j X.A) (ha : SA fx X Wx (e :: es) mas) (hkj : k + 1 ≤ j := by decide) (hN : X.N[i]? = some y := by rfl) (hv : Vis X.env.scope y := by first | exact Or.inl rfl | exact Or.inr (Or.inl rfl) | exact Or.inr (Or.inr rfl)) (hdb : (y == ("__debug__" : Str)) = false := by decide) (hcd : (y == ("__classdict__" : Str)) = false := by decide)
    (he : starEach (e :: es) X.env = (false, eval e X.env) :: starEach es X.env := by rfl) (hpl : (backTo pos (starEach es X.env)).any (·.1) = false := by rfl) :
    SE fx X Wx (.Call (.Name y p1) (e :: es) [] pos) (mMakeV i c mf mas) := by
  obtain ⟨C, f, fd, ps, h1, h2, h3, h4⟩ := C.ex
  exact se_makeV h2 h3 tk (hr.mono hkj) h1 h4 ha hN hv hdb hcd he hpl
theorem se_pr (C : CanPr X.prog X.w X.K X.mg X.base k c f mf) (hr : Room j X.A) (ha : SE fx X Wx e ma) (hkj : k + 1 ≤ j := by decide) (hab : attributeBase e f X.env (eval e X.env) = eval e X.env := by rfl) : SE fx X Wx (.Attribute e f pos) (mProp c mf ma) := by
  obtain ⟨C, p, g, fd, ps, h1, h2, h3, h4, h5⟩ := C.ex
  exact se_prop h1 h2 h3 h4 (hr.mono hkj) h5 ha hab
theorem se_cm {pl : Sem Bool} (C : CanCm X.prog X.w X.K X.mg X.base k x m ios mf) (tk : L2N.Takes X Wx) (hr : Room j X.A) (ha : SA fx X Wx (e :: es) mas) (hkj : k ≤ j := by decide) (nd : ios.Nodup := by decide) (hg : Gl X x := by rfl) (hdb : (x == ("__debug__" : Str)) = false := by decide)
    (hst : starEach (e :: es) X.env = (false, eval e X.env) :: starEach es X.env := by rfl) (hpl : (backTo pos (starEach es X.env)).any (·.1) = false := by rfl)
    (ht : eval (.Call (.Attribute (.Name x p1) m apos) (e :: es) [] pos) X.env = (do
      let ov ← eval (.Name x p1) X.env
      standAt apos.atName
      let (f, first) ← holding [ov] (getMethod ov m pl)
      callWith pos f first (backTo pos (starEach (e :: es) X.env)) (backToKw pos (keywordEach [] X.env))) := by rfl) :
    SE fx X Wx (.Call (.Attribute (.Name x p1) m apos) (e :: es) [] pos) (mCMeth x ios mf mas) := by
  obtain ⟨C, mc, pr, g, fd, ps, h1, h2, h3, h4, h5⟩ := C.ex
  exact se_cmeth (pl := pl) hg h1 h2 h3 h4 tk (hr.mono hkj) h5 ha nd hdb hst hpl ht
theorem se_me {o : Expr} {mo : M RV} {pl : Sem Bool} (C : CanMe X.prog X.w X.K X.mg X.base k c m ios mf) (tk : L2N.Takes X Wx) (hr : Room j X.A) (ho : SE fx X Wx o mo) (ha : SA fx X Wx (e :: es) mas) (hkj : k ≤ j := by decide) (nd : ios.Nodup := by decide)
    (hst : starEach (e :: es) X.env = (false, eval e X.env) :: starEach es X.env := by rfl) (hpl : (backTo pos (starEach es X.env)).any (·.1) = false := by rfl)
    (ht : eval (.Call (.Attribute o m apos) (e :: es) [] pos) X.env = (do
      let ov ← eval o X.env
      standAt apos.atName
      let (f, first) ← holding [ov] (getMethod ov m pl)
      callWith pos f first (backTo pos (starEach (e :: es) X.env)) (backToKw pos (keywordEach [] X.env))) := by rfl) :
    SE fx X Wx (.Call (.Attribute o m apos) (e :: es) [] pos) (mMeth c m ios mf mo mas) := by
  obtain ⟨C, f, fd, ps, h1, h2, h3, h4, h5⟩ := C.ex
  exact se_meth (pl := pl) h1 h2 h3 h4 tk (hr.mono hkj) h5 ho ha nd hst hpl ht
theorem se_cc {d : D} (C : ClsC X.K X.mg x f d) (hg : Gl X x := by rfl) (hd : (x == ("__debug__" : Str)) = false := by decide)
    (hb : attributeBase (.Name x p) f X.env (eval (.Name x p) X.env) = eval (.Name x p) X.env := by rfl) : SE fx X Wx (.Attribute (.Name x p) f pos) (mC d) := by
  obtain ⟨C, mc, v, u, h1, h2, h3, h4⟩ := C.ex
  exact se_cval hg h1 h2 h3 h4 hd hb
theorem ss_err (hc : X.calm = true) (tk : L2N.Takes X Wx) (T : Er X.prog X.K X.mg nm f t) (hr : Room j X.A) (ha : SE fx X Wx a ma) (hg : Gl X nm := by rfl) (hdb : (nm == ("__debug__" : Str)) = false := by decide)
    (he : starEach (a :: []) X.env = (false, eval a X.env) :: starEach [] X.env := by rfl) (hpl : (backTo pos (starEach [] X.env)).any (·.1) = false := by rfl) :
    SS fx X Wx (.Raise (some (.Call (.Name nm p) [a] [] pos)) none pos2) (mRaise nm f ma) := by
  obtain ⟨C, fI, cc, cda, h⟩ := T.ex
  exact ss_raise hc tk h hr ha hg hdb he hpl
/-- a constant of the module, its value told -/
def mgInt (mg : Str → Option Value) (x : Str) (i : Int) : Prop := ∃ t, mg x = some (.int i t)
theorem se_gi {i : Int} (h : mgInt X.mg x i) (hg : Gl X x := by rfl) (hd : (x == ("__debug__" : Str)) = false := by decide) : SE fx X Wx (.Name x pos) (mC (.int i)) := by
  obtain ⟨t, h⟩ := h
  exact se_gint hg h hd
def mgStr (mg : Str → Option Value) (x : Str) (z : Str) : Prop := ∃ t, mg x = some (.str z t)
theorem se_gs {z : Str} (h : mgStr X.mg x z) (hg : Gl X x := by rfl) (hd : (x == ("__debug__" : Str)) = false := by decide) : SE fx X Wx (.Name x pos) (mC (.str z)) := by
  obtain ⟨t, h⟩ := h
  exact se_gstr hg h hd
end
/-! ### what the table of classes wants -/
theorem exm_one {K : PySem.W.Frag} {C D : Addr} {b : Bool} (h1 : PySem.W.subIn K (.ref D) (.type "BaseException") = some true) (h2 : PySem.W.isClsIn K D = true) (h3 : PySem.W.typeIn K (.ref D) = some (.type "type")) (h4 : PySem.W.subIn K (.ref C) (.ref D) = some b) : PySem.W.exmOne K (.ref C) (.ref D) = some b := by
  have h2' : (PySem.W.clsIn K D).isSome = true := h2
  unfold PySem.W.exmOne PySem.W.kitCls
  rw [h1]
  show (if ((PySem.W.clsIn K D).isSome && PySem.W.typeIn K (.ref D) == some (.type "type")) = true then PySem.W.subIn K (.ref C) (.ref D) else none) = some b
  rw [h2', h3, if_pos (by rfl)]
  exact h4
theorem kit_one {K : PySem.W.Frag} {C D : Addr} {b : Bool} (h2 : PySem.W.isClsIn K D = true) (h3 : PySem.W.typeIn K (.ref D) = some (.type "type")) (h4 : PySem.W.subIn K (.ref C) (.ref D) = some b) (h5 : PySem.W.subIn K (.ref C) (.ref C) = some true) : PySem.W.kitOne K (.ref C) (.ref D) = some b := by
  have h2' : (PySem.W.clsIn K D).isSome = true := h2
  unfold PySem.W.kitOne
  split
  · rename_i he
    have he : C = D := Value.ref.inj (beq_iff_eq.mp he)
    subst he
    rw [h5] at h4
    exact h4
  · unfold PySem.W.kitCls
    show (if ((PySem.W.clsIn K D).isSome && PySem.W.typeIn K (.ref D) == some (.type "type")) = true then PySem.W.subIn K (.ref C) (.ref D) else none) = some b
    rw [h2', h3, if_pos (by rfl)]
    exact h4
theorem exm_val {K : PySem.W.Frag} {C : Addr} (h4 : PySem.W.subIn K (.ref C) (.type "ValueError") = some true) (h5 : PySem.W.subIn K (.type "ValueError") (.type "BaseException") = some true) : PySem.W.exmOne K (.ref C) (.type "ValueError") = some true := by
  unfold PySem.W.exmOne PySem.W.kitCls
  rw [h5]
  show (if PySem.W.kitMeta "ValueError" = true then PySem.W.subIn K (.ref C) (.type "ValueError") else none) = some true
  rw [if_pos (by decide +kernel)]
  exact h4
theorem kit_val {K : PySem.W.Frag} {C : Addr} (h4 : PySem.W.subIn K (.ref C) (.type "ValueError") = some true) : PySem.W.kitOne K (.ref C) (.type "ValueError") = some true := by
  unfold PySem.W.kitOne
  rw [if_neg (by simp)]
  unfold PySem.W.kitCls
  show (if PySem.W.kitMeta "ValueError" = true then PySem.W.subIn K (.ref C) (.type "ValueError") else none) = some true
  rw [if_pos (by decide +kernel)]
  exact h4
/-- one row of the table -/
def ExRow (K : PySem.W.Frag) (mg : Str → Option Value) (c y : Str) (b : Bool) : Prop := ∃ (C : Addr) (cv : Value), mg c = some (.ref C) ∧ ExCls K C ∧ (mg y = some cv ∨ (mg y = none ∧ bootBuiltins y = some cv)) ∧ (∃ v : V, RelV v cv ∧ ∀ u, RelV v u → u = cv) ∧ PySem.W.kitOne K (.ref C) cv = some b ∧ PySem.W.exmOne K (.ref C) cv = some b
theorem exRow {K : PySem.W.Frag} {mg : Str → Option Value} {c y : Str} {C D : Addr} {b : Bool} (hc : mg c = some (.ref C)) (e : ExCls K C) (hy : mg y = some (.ref D)) (h1 : PySem.W.subIn K (.ref D) (.type "BaseException") = some true) (h2 : PySem.W.isClsIn K D = true) (h3 : PySem.W.typeIn K (.ref D) = some (.type "type")) (h4 : PySem.W.subIn K (.ref C) (.ref D) = some b) (h5 : PySem.W.subIn K (.ref C) (.ref C) = some true) : ExRow K mg c y b :=
  ⟨C, .ref D, hc, e, .inl hy, ⟨.ref D, rfl, fun u h => h⟩, kit_one h2 h3 h4 h5, exm_one h1 h2 h3 h4⟩
theorem exRowV {K : PySem.W.Frag} {mg : Str → Option Value} {c : Str} {C : Addr} (hc : mg c = some (.ref C)) (e : ExCls K C) (hy : mg "ValueError" = none) (h4 : PySem.W.subIn K (.ref C) (.type "ValueError") = some true) (h5 : PySem.W.subIn K (.type "ValueError") (.type "BaseException") = some true) : ExRow K mg c "ValueError" true :=
  ⟨C, .type "ValueError", hc, e, .inr ⟨hy, by first | rfl | decide +kernel⟩, ⟨.ty "ValueError", rfl, fun u h => h⟩, kit_val h4, exm_val h4 h5⟩
section
variable {K : PySem.W.Frag} {mg : Str → Option Value} {c f y : Str} {C : Addr} {b : Bool} {tab : List ((Str × Str) × Bool)} {fl : List (Str × Str)}
theorem clsNil : ClsTab K mg [] := ⟨fun _ _ h => by simp at h⟩
theorem clsCons (hc : mg c = some (.ref C)) (h1 : Cls K C) (h2 : NoAttr K C f) (T : ClsTab K mg fl) : ClsTab K mg ((c, f) :: fl) := ⟨fun c' f' h C' hC => by
  rcases List.mem_cons.mp h with e | e
  · cases e
    rw [hc] at hC
    cases hC
    exact ⟨h1, h2⟩
  · exact T.f c' f' e C' hC⟩
theorem exNil : ExTab K mg [] [] := ⟨fun _ _ _ h => by simp at h, fun _ _ h => by simp at h⟩
theorem exQ (h : ExRow K mg c y b) (T : ExTab K mg tab fl) : ExTab K mg (((c, y), b) :: tab) fl := ⟨fun c' y' b' e => by
  rcases List.mem_cons.mp e with e | e
  · cases e; exact h
  · exact T.q c' y' b' e, T.f⟩
theorem exF (hc : mg c = some (.ref C)) (h1 : XfC K C) (h2 : PySem.W.findIn K (.ref C) f = some none) (T : ExTab K mg tab fl) : ExTab K mg tab ((c, f) :: fl) := ⟨T.q, fun c' f' e => by
  rcases List.mem_cons.mp e with e | e
  · cases e; exact ⟨C, hc, h1, h2⟩
  · exact T.f c' f' e⟩
end
end Av

/-! a comprehension over an own list that stays in its slot -/
namespace Av
open PySem PySem.Spec PyProof.Rows L2
theorem lc_items {fx : Fx} {X : Cx} {Wx : WX} {vs sl : List Nat} {g : MG} {mt : M Bool} {me : M RV} {tg' : TG} {tt : TT} {te : TE}
    (qg : ∀ fx F G H sd sd' σ rv v (Q : L2.St → Hp → Prop), SR (wd X) fx F G H sd σ → RVR (wd X) fx F G H sd σ rv v → g rv sd = some sd' → (∀ F' G' H' σ', Same F F' → Same G G' → SR (wd X) fx F' G' H' sd' σ' → Off sl σ σ' → Q σ' H') → tg' v σ H Q)
    (qt : ∀ fx F G H sd σ Q, SR (wd X) fx F G H sd σ → Po (wd X) fx F G σ (fun _ _ _ _ => False) RlT Q (mt sd) → tt σ H Q)
    (qe : ∀ fx F G H sd σ Q, SR (wd X) fx F G H sd σ → Po (wd X) fx F G σ (fun _ _ _ _ => False) (RlE (wd X) fx σ) Q (me sd) → te σ H Q)
    (hsl : ∀ i ∈ sl, i ∈ vs) {J : It} {items : List RV} {F1 G1 H1 : Hp} {sd1 : List SV} {σ : L2.St} {Q : VK} (S1 : SR (wd X) fx F1 G1 H1 sd1 σ)
    (wk : ∀ (fx2 : Fx) (i : Nat) F2 G2 H2 sd2 σ2, (∀ p ∈ fx.hold, p ∈ fx2.hold) → Same F1 F2 → Same G1 G2 → SR (wd X) fx2 F2 G2 H2 sd2 σ2 → (i = items.length → J.stop i H2) ∧ ∀ r, items[i]? = some r → J.go i H2 ∧ ∀ x H3, J.yld i H2 x H3 → ∃ F3 G3, Same F2 F3 ∧ Same G2 G3 ∧ SR (wd X) fx2 F3 G3 H3 sd2 σ2 ∧ RVR (wd X) fx2 F3 G3 H3 sd2 σ2 r x)
    (h : Po (wd X) fx F1 G1 σ Wx (RlE (wd X) fx σ) Q (compGo vs g mt me items [] sd1)) (D : Addr) (hD : H1 D = none) : ∃ W : Nat → Nat → Hp → Prop, (∃ m, W 0 m (upd H1 D (.lst []))) ∧ ∀ i m H, W i m H →
      (J.stop i H ∧ Q (.ref D) H) ∨ (J.go i H ∧ ∃ Nx : Hp → Prop, (∀ H', Nx H' → ∃ m', m' < m ∧ W (i + 1) m' H') ∧ ∀ x H', J.yld i H x H' → tg' x (wipe σ vs) H' fun σ2 H2 => wipe σ2 vs = wipe σ vs ∧ tt σ2 H2 fun b H3 =>
        if b = true then te σ2 H3 fun y H4 => ∃ acc, H4 D = some (.lst acc) ∧ acc.length < sizeLine ∧ Nx (upd H4 D (.lst (acc ++ [y]))) else Nx H3) := by
  have hnd : ∀ o, (D, o) ∉ fx.hold := fun o hm => by rw [(S1.held D o hm).1] at hD; cases hD
  refine ⟨fun i m H' => m = items.length - i ∧ i ≤ items.length ∧ ∃ F' G' sd' acc accV, Same F1 F' ∧ Same G1 G' ∧ SR (wd X) (fx.with D (.lst accV)) F' G' H' sd' (wipe σ vs) ∧ RepL (wd X) F' acc accV ∧ Po (wd X) fx F' G' σ Wx (RlE (wd X) fx σ) Q (compGo vs g mt me (items.drop i) acc sd'),
    ⟨items.length, by simp, Nat.zero_le _, F1, G1, wipeS sd1 vs, [], [], Same.refl _, Same.refl _, ?_, RepL.nil, ?_⟩, ?_⟩
  · exact SR.wiped (S1.holdNew hD) (wipe_length _ _) fun i hi => wipe_get hi
  · rw [List.drop_zero, compGo_wipe]
    exact h
  · rintro i m H2 ⟨rfl, hi, F2, G2, sd2, acc, accV, j1, j2, S2, rl, h2⟩
    obtain ⟨w1, w2⟩ := wk (fx.with D (.lst accV)) i F2 G2 H2 sd2 (wipe σ vs) (fun p hp => List.mem_cons_of_mem _ hp) j1 j2 S2
    by_cases hlt : i < items.length
    · obtain ⟨go, y⟩ := w2 items[i] (List.getElem?_eq_getElem hlt)
      refine .inr ⟨go, fun H' => ∃ F' G' sd' acc accV, Same F1 F' ∧ Same G1 G' ∧ SR (wd X) (fx.with D (.lst accV)) F' G' H' sd' (wipe σ vs) ∧ RepL (wd X) F' acc accV ∧ Po (wd X) fx F' G' σ Wx (RlE (wd X) fx σ) Q (compGo vs g mt me (items.drop (i + 1)) acc sd'),
        fun H' n => ⟨items.length - (i + 1), by omega, rfl, hlt, n⟩, fun x H3 yx => ?_⟩
      obtain ⟨F3, G3, j3, j4, S3, r3⟩ := y x H3 yx
      rw [List.drop_eq_getElem_cons hlt] at h2
      unfold compGo at h2
      have h2 := Po.mono j3 j4 h2
      cases eg : g items[i] (wipeS sd2 vs) with
      | none => rw [eg] at h2; exact h2.elim
      | some sd3 =>
        rw [eg] at h2
        have S3w : SR (wd X) (fx.with D (.lst accV)) F3 G3 H3 (wipeS sd2 vs) (wipe σ vs) := S3.wiped rfl fun _ _ => rfl
        have hr : RVR (wd X) (fx.with D (.lst accV)) F3 G3 H3 (wipeS sd2 vs) (wipe σ vs) items[i] x := by
          -- an item is a plain value
          have := w2 items[i] (List.getElem?_eq_getElem hlt)
          cases hit : items[i] with
          | val d => rw [hit] at r3; exact r3
          | bval d => rw [hit] at r3; exact r3
          | slot j => rw [hit] at r3; exact r3
          | fresh d =>
            rw [hit] at r3
            obtain ⟨a, q1, q2, q3, q4, q5, q6⟩ := r3
            refine ⟨a, q1, q2, q3, q4, fun k s e m => ?_, q6⟩
            rcases wipeS_get e with rfl | ⟨k1, k2⟩
            · cases m
            · exact q5 k s k1 m
        refine qg (fx.with D (.lst accV)) F3 G3 H3 (wipeS sd2 vs) sd3 (wipe σ vs) items[i] x _ S3w hr eg fun F4 G4 H4 σ4 j5 j6 S4 ho => ?_
        have hl4 : σ4.length = σ.length := by rw [ho.len, wipe_length]
        have hout : ∀ i, i ∉ vs → σ4[i]? = σ[i]? := fun i hi => by rw [ho.out i (fun z => hi (hsl i z)), wipe_get hi]
        have hout2 : ∀ i, i ∉ vs → (wipe σ vs)[i]? = σ4[i]? := fun i hi => by rw [wipe_get hi, hout i hi]
        refine ⟨wipe_eq hl4 hout, qt (fx.with D (.lst accV)) F4 G4 H4 sd3 σ4 _ S4 ?_⟩
        have h2 := Po.mono j5 j6 h2
        dsimp only at h2
        cases et : mt sd3 with
        | fail => rw [et] at h2; exact h2.elim
        | exc x s => rw [et] at h2; exact h2.elim
        | ok b sd4 =>
          rw [et] at h2
          intro F5 G5 H5 b' j7 j8 S5 eb
          subst eb
          have h2 := Po.mono j7 j8 h2
          have k1 := (((j1.trans j3).trans j5).trans j7)
          have k2 := (((j2.trans j4).trans j6).trans j8)
          cases b with
          | false =>
            refine iteF ⟨F5, G5, wipeS sd4 vs, acc, accV, k1, k2, S5.wiped (by rw [wipe_length, hl4]) hout2, rl.keep ((j3.trans j5).trans j7), ?_⟩
            rw [compGo_wipe]
            exact h2
          | true =>
            refine iteT (qe (fx.with D (.lst accV)) F5 G5 H5 sd4 σ4 _ S5 ?_)
            dsimp only at h2
            unfold mBind at h2
            cases em : me sd4 with
            | fail => rw [em] at h2; exact h2.elim
            | exc x s => rw [em] at h2; exact h2.elim
            | ok r sd5 =>
              rw [em] at h2
              intro F6 G6 H6 yv j9 j10 S6 ry
              obtain ⟨F7, G7, i1, i2, S7, ry⟩ := ry.keep S6
              have h2 := Po.mono (j9.trans i1) (j10.trans i2) h2
              unfold R.bind at h2
              dsimp only at h2
              cases es : mShare r sd5 with
              | fail => rw [es] at h2; exact h2.elim
              | exc x s => rw [es] at h2; exact h2.elim
              | ok d sd6 =>
                rw [es] at h2
                obtain ⟨F8, G8, i3, i4, S8, rd⟩ := share_ok S7 ry es
                have h2 := Po.mono i3 i4 h2
                obtain ⟨hD6, _, _⟩ := S8.held D (.lst accV) List.mem_cons_self
                dsimp only at h2
                split at h2
                · rename_i hz
                  have ga := ((j9.trans i1).trans i3)
                  have rl' := rl.keep ((((j3.trans j5).trans j7).trans ga))
                  refine ⟨accV, hD6, by rw [rl.lenD]; exact hz, F8, G8, wipeS sd6 vs, acc ++ [d], accV ++ [yv], k1.trans ga, k2.trans ((j10.trans i2).trans i4), ?_, rl'.append (RepL.single rd), ?_⟩
                  · exact (S8.holdSet hnd).wiped (by rw [wipe_length, hl4]) hout2
                  · rw [compGo_wipe]
                    exact h2
                · exact h2.elim
    · have e : i = items.length := by omega
      subst e
      rw [List.drop_length] at h2
      unfold compGo at h2
      obtain ⟨hD, hG, hH⟩ := S2.held D (.lst accV) List.mem_cons_self
      have fr := S2.free D (.lst accV) List.mem_cons_self
      have S9 : SR (wd X) fx F2 G2 H2 (wipeS sd2 vs) σ := S2.unhold.wiped (wipe_length _ _).symm fun i hi => (wipe_get hi).symm
      refine .inl ⟨w1 rfl, h2 F2 G2 H2 _ (Same.refl _) (Same.refl _) S9 ⟨D, rfl, hG, hH, ⟨accV, hD, rl⟩, fun k s e m => ?_, hnd⟩⟩
      rcases wipeS_get e with rfl | ⟨q1, q2⟩
      · cases m
      · rw [← wipe_get q2]
        exact fr k s q1 m

/-- the own list in slot i is set aside -/
theorem SR.hide {W : Wd} {fx : Fx} {F G H : Hp} {sd : List SV} {σ : L2.St} {i : Nat} {a : Addr} {ds : List D} {vs : List V} (S : SR W fx F G H sd σ) (e : sd[i]? = some (.own (.lst ds))) (p : σ[i]? = some (some (.ref a))) (hv : H a = some (.lst vs)) (hg : G a = none) (h0 : fx.H0 a = none) : SR W (fx.with a (.lst vs)) F G H (sd.set i .no) σ := by
  have hi := (List.getElem?_eq_some_iff.mp e).1
  have old : ∀ {j : Nat} {s : SV}, (sd.set i .no)[j]? = some s → s.mine = true → j ≠ i ∧ sd[j]? = some s := fun {j s} e1 m => by
    rw [List.getElem?_set] at e1
    by_cases hj : i = j
    · subst hj; rw [if_pos rfl, if_pos hi] at e1; cases e1; cases m
    · rw [if_neg hj] at e1; exact ⟨Ne.symm hj, e1⟩
  refine ⟨⟨S.ff, S.fn, S.gg, S.gn, S.fg, S.gh, S.dom, S.tup, fun b o hm => ?_⟩, by rw [List.length_set]; exact S.len, fun j s e1 => ?_, fun j k s s' b e1 e2 m1 m2 p1 p2 => ?_, fun b o hm j s e1 m p1 => ?_⟩
  · rcases List.mem_cons.mp hm with z | z
    · cases z; exact ⟨hv, hg, h0⟩
    · exact S.held b o z
  · rw [List.getElem?_set] at e1
    by_cases hj : i = j
    · subst hj; rw [if_pos rfl, if_pos hi] at e1; cases e1; exact True.intro
    · rw [if_neg hj] at e1
      have q := S.slot j s e1
      cases s <;> exact q
  · exact S.apart j k s s' b (old e1 m1).2 (old e2 m2).2 m1 m2 p1 p2
  · obtain ⟨n1, e3⟩ := old e1 m
    rcases List.mem_cons.mp hm with z | z
    · cases z
      exact n1 (S.apart j i s _ a e3 e m rfl p1 p)
    · exact S.free b o z j s e3 m p1
/-- .. and stands there again -/
theorem SR.shown {W : Wd} {fx : Fx} {F G H : Hp} {sd : List SV} {σ : L2.St} {i : Nat} {a : Addr} {ds : List D} {vs : List V} (S : SR W (fx.with a (.lst vs)) F G H sd σ) (hi : i < sd.length) (p : σ[i]? = some (some (.ref a))) (rl : RepL W F ds vs) (nh : ∀ o, (a, o) ∉ fx.hold) : SR W fx F G H (sd.set i (.own (.lst ds))) σ := by
  obtain ⟨k1, k2, k3⟩ := S.held a (.lst vs) List.mem_cons_self
  have fr := S.free a (.lst vs) List.mem_cons_self
  have U := S.unhold
  refine ⟨U.toHR, by rw [List.length_set]; exact U.len, fun j s e1 => ?_, fun j k s s' b e1 e2 m1 m2 p1 p2 => ?_, fun b o hm j s e1 m p1 => ?_⟩
  · rw [List.getElem?_set] at e1
    by_cases hj : i = j
    · subst hj; rw [if_pos rfl, if_pos hi] at e1; cases e1; exact ⟨a, p, k2, k3, vs, k1, rl⟩
    · rw [if_neg hj] at e1; exact U.slot j s e1
  · rw [List.getElem?_set] at e1 e2
    by_cases hj : i = j
    · by_cases hk : i = k
      · rw [← hj, ← hk]
      · subst hj
        rw [if_neg hk] at e2
        rw [p] at p1; cases p1
        exact absurd p2 (fr k s' e2 m2)
    · by_cases hk : i = k
      · subst hk
        rw [if_neg hj] at e1
        rw [p] at p2; cases p2
        exact absurd p1 (fr j s e1 m1)
      · rw [if_neg hj] at e1; rw [if_neg hk] at e2
        exact U.apart j k s s' b e1 e2 m1 m2 p1 p2
  · rw [List.getElem?_set] at e1
    by_cases hj : i = j
    · subst hj
      rw [p] at p1; cases p1
      exact nh o hm
    · rw [if_neg hj] at e1
      exact U.free b o hm j s e1 m p1
/-- over the list in slot i: it stays an own one -/
def mCompO (i : Nat) (ds : List D) (vs : List Nat) (g : MG) (mt : M Bool) (me : M RV) : M RV := fun sd => match compGo vs g mt me (ds.map .val) [] (sd.set i .no) with
  | .ok (.fresh d) sd1 => .ok (.fresh d) (sd1.set i (.own (.lst ds)))
  | _ => .fail
def ownLst : SV → Option (List D)
  | .own (.lst ds) => some ds
  | _ => none
def mCompA (i : Nat) (vs : List Nat) (g : MG) (mt : M Bool) (me : M RV) : M RV := fun sd => match ownLst (sd[i]?.getD .no) with
  | some ds => mCompO i ds vs g mt me sd
  | none => mComp vs (mSeqIt (mVar i)) g mt me sd
section
variable {fx : Fx} {X : Cx} {Wx : WX} {pos : Pos}
theorem se_lcA (i : Nat) {y : Str} {py : Pos} {scope : Scope} {own : List (Str × Nat)} {tg elt : Expr} {ifs : List Expr} {sl : List Nat} {g : MG} {mt : M Bool} {me : M RV} (hc : X.calm = true) (hN : X.N.Nodup) (hy : X.N[i]? = some y) (hv : Vis X.env.scope y) (ok : BlkOk X.N X.env.scope scope own) (hg : SGb X scope tg sl g) (ht : STb X scope ifs mt) (he : SEb X scope elt me)
    (hsl : ∀ i ∈ sl, i ∈ own.map (·.2)) (hs : ∀ x, foldedSetIterable (.Name y py) X.env x = pure x := by intro _; rfl) (hd : (y == ("__debug__" : Str)) = false := by decide) (hcd : (y == ("__classdict__" : Str)) = false := by decide) : SE fx X Wx (.ListComp elt [⟨tg, .Name y py, ifs, 0⟩] scope pos) (mCompA i (own.map (·.2)) g mt me) := by
  obtain ⟨wi, pi, qi⟩ := (si_seq (fx := fx) (Wx := Wx) (tg := tg) (se_var (pos := py) i hy hv hd hcd)).ex
  obtain ⟨tg', pg, qg⟩ := hg.ex
  obtain ⟨tt, pt, qt⟩ := ht.ex
  obtain ⟨te, pe, qe⟩ := he.ex
  refine ⟨_, pe_lc hc hN (PI.or (pi_seq (pe_var (pos := py) hy hv hd hcd)) pi) ok pg pt pe hs, fun F G H sd σ Q S h => ?_⟩
  unfold mCompA at h
  cases eo : ownLst (sd[i]?.getD .no) with
  | none =>
    rw [eo] at h
    exact Or.inr (lc_in (scope := scope) (tg := tg) (elt := elt) (ifs := ifs) qi qg qt qe hsl S h)
  | some ds =>
    rw [eo] at h
    dsimp only at h
    refine Or.inl ?_
    have es : sd[i]? = some (.own (.lst ds)) := by
      cases e : sd[i]? with
      | none => rw [e] at eo; cases eo
      | some s =>
        rw [e] at eo
        unfold ownLst at eo
        simp only [Option.getD_some] at eo
        split at eo
        · cases eo; rfl
        · cases eo
    have hi := (List.getElem?_eq_some_iff.mp es).1
    obtain ⟨a, p, hga, h0, vs, hv1, rl⟩ := S.slot i _ es
    have nh : ∀ o, (a, o) ∉ fx.hold := fun o hm => S.free a o hm i _ es rfl p
    refine ⟨.ref a, p, a, rfl, .inl ⟨⟨vs, SqL.of hv1⟩, ?_⟩⟩
    intro D hD
    have S1 := S.hide es p hv1 hga h0
    refine lc_items (Wx := Wx) qg qt qe hsl S1 (items := ds.map .val) (fun fx2 k F2 G2 H2 sd2 σ2 hh i1 i2 S2 => ?_) ?_ D hD
    · obtain ⟨q1, _, _⟩ := S2.held a (.lst vs) (hh _ List.mem_cons_self)
      have hq : SqL X.K H2 a vs := SqL.of q1
      have hn : (ds.map RV.val).length = vs.length := by rw [List.length_map]; exact rl.n
      refine ⟨fun e => ⟨vs, hq, by omega⟩, fun r er => ?_⟩
      have hk : k < vs.length := by rw [← hn]; exact (List.getElem?_eq_some_iff.mp er).1
      refine ⟨⟨vs, vs[k], hq, List.getElem?_eq_getElem hk⟩, fun x H3 yx => ?_⟩
      obtain ⟨rfl, yx⟩ := yx
      rw [List.getElem?_map, Option.map_eq_some_iff] at er
      obtain ⟨d, ed, rfl⟩ := er
      exact ⟨F2, G2, Same.refl _, Same.refl _, S2, (rl.r k d x ed (yx vs hq)).keep i1⟩
    · unfold mCompO at h
      cases ec : compGo (own.map (·.2)) g mt me (ds.map .val) [] (sd.set i .no) with
      | fail => rw [ec] at h; exact h.elim
      | exc x s1 => rw [ec] at h; exact h.elim
      | ok r sd1 =>
        rw [ec] at h
        cases r with
        | val d => exact h.elim
        | bval d => exact h.elim
        | slot j => exact h.elim
        | fresh d =>
          intro F2 G2 H2 v i1 i2 S2 r2
          have hl : i < sd1.length := by rw [S2.len, ← S.len]; exact hi
          have S3 := S2.shown hl p (rl.keep i1) nh
          refine h F2 G2 H2 v i1 i2 S3 ?_
          obtain ⟨b, e1, e2, e3, e4, e5, e6⟩ := r2
          refine ⟨b, e1, e2, e3, e4, fun j s es2 m pj => ?_, fun o hm => e6 o (List.mem_cons_of_mem _ hm)⟩
          rw [List.getElem?_set] at es2
          by_cases hj : i = j
          · subst hj
            rw [p] at pj; cases pj
            exact e6 (.lst vs) List.mem_cons_self
          · rw [if_neg hj] at es2
            exact e5 j s es2 m pj
/-- an argument that the caller gives away: an own list becomes shared -/
def mFrz (ma : M RV) : M RV := mBind ma fun r => mBind (mShare r) fun d => mPure (.val d)
theorem se_frz {e : Expr} {ma : M RV} (h : SE fx X Wx e ma) : SE fx X Wx e (mFrz ma) := by
  obtain ⟨t, p, q⟩ := h.ex
  refine ⟨t, p, fun F G H sd σ Q S h => one q S h fun F1 G1 H1 sd1 ra v e1 e2 S1 r1 h => ?_⟩
  obtain ⟨d, sd2, F2, G2, e3, e4, S2, rd, h⟩ := h.share S1 r1
  exact h F2 G2 H1 v (Same.refl _) (Same.refl _) S2 rd
end
end Av

/-! sets of keys of one kind: made of a tuple or a list, told in order -/
namespace Av
open PySem PySem.Spec PyProof.Rows L2

section
variable {P : Program} {w : World} {κ : Type} [DecidableEq κ]
/-- the set at a, its members ms, each once; its table can be walked -/
def GSet (kd : KeyKind P w κ) (kf : Value → κ) (h : Heap) (a : Addr) (ms : List κ) : Prop :=
  ∃ ob ents ep tab, h.get? a = some ob ∧ ob.ExactSet ∧ ob.data = .set ents ep tab ∧ tab.fits ents.size = true ∧ ents.size < scanBound ∧ (Ris tab.place.toList ∧ (w.params.followText "set-order" = true ∨ tab.led = true)) ∧
    ElemsOf kd ents.toList ∧ (ents.toList.map fun e => kf e.2).Perm ms ∧ ms.Nodup
/-- kf tells the key of each value of the kind -/
def Tells (kd : KeyKind P w κ) (kf : Value → κ) : Prop := ∀ k v, kd.is k v = true → kf v = k
variable {kd : KeyKind P w κ} {kf : Value → κ} {h h' : Heap} {a : Addr} {ms : List κ}
theorem GSet.keep (g : GSet kd kf h a ms) (e : ∀ o, h.get? a = some o → h'.get? a = some o) : GSet kd kf h' a ms := by
  obtain ⟨ob, ents, ep, tab, g1, g2⟩ := g
  exact ⟨ob, ents, ep, tab, e ob g1, g2⟩
theorem GSet.perm {ns : List κ} (g : GSet kd kf h a ms) (e : ms.Perm ns) : GSet kd kf h a ns := by
  obtain ⟨ob, ents, ep, tab, g1, g2, g3, g4, g5, g6, g7, g8, g9⟩ := g
  exact ⟨ob, ents, ep, tab, g1, g2, g3, g4, g5, g6, g7, g8.trans e, e.nodup_iff.mp g9⟩
theorem GSet.start {ob : Obj} (e : h.get? a = some ob) (c : ob.ExactSet) (d : ob.data = .set #[] 0 (.fresh 0 0 (!w.params.followText "set-order"))) : GSet kd kf h a [] := by
  refine ⟨ob, #[], 0, _, e, c, d, rfl, by decide, ⟨List.Pairwise.nil, ?_⟩, fun x hx => by simp at hx, List.Perm.refl _, List.nodup_nil⟩
  show _ ∨ (!w.params.followText "set-order") = true
  cases w.params.followText "set-order" <;> simp
variable {A : Around} {E : Value → Shared → Prop} {s : Shared}

theorem gset_tail {say : Bool → Sem Unit} (hsay : ∀ (b : Bool) (s₁ : Shared) (Q' : Unit → Shared → Prop), Q' () s₁ → wpAny (model P w) A (say b) Q' E s₁)
    {ob : Obj} {ents : Array (Int × Value)} {ep : Nat} {tab : SetTable} (g1 : s.heap.get? a = some ob) (g2 : ob.ExactSet) (g3 : ob.data = .set ents ep tab)
    {ents1 : Array (Int × Value)} {tab2 : SetTable} (g4 : tab2.fits ents1.size = true) (g5 : ents1.size < scanBound) (g6 : Ris tab2.place.toList ∧ (w.params.followText "set-order" = true ∨ tab2.led = true)) (g7 : ElemsOf kd ents1.toList) (g8 : (ents1.toList.map fun e => kf e.2).Perm ms) (g9 : ms.Nodup)
    {wd : Bool} {R : Option Bool → Shared → Prop} (hR : ∀ h', Heap.SameBut a s.heap h' → GSet kd kf h' a ms → R (some true) { s with heap := h' }) :
    wpAny (model P w) A (do
        storeSet a ents1 tab2
        if (!wd && tab2.tooFull) = true then do
            say (relayAll tab2 ents1 (SetTable.grown ents1.size)).2.2
            storeSet a (relayAll tab2 ents1 (SetTable.grown ents1.size)).1 (relayAll tab2 ents1 (SetTable.grown ents1.size)).2.1
            pure (some true)
          else pure (some true)) R E s := by
  have b1 := Heap.SameBut.update s.heap a (Obj.putSet ents1 tab2)
  have p1 := store_at (es' := ents1) (t' := tab2) g1 g3
  refine wpAny_bind (wpAny_storeSet_of g1 g3 ?_ (fits_of_scanBound g5))
  by_cases hc : (!wd && tab2.tooFull) = true
  · rw [if_pos hc]
    have q1 := relayAll_fits tab2 ents1 (SetTable.grown ents1.size)
    have q2 := relayAll_perm tab2 ents1 (SetTable.grown ents1.size)
    have q3 := relayAll_led tab2 ents1 (SetTable.grown ents1.size)
    have q4 := relayAll_ris tab2 ents1 (SetTable.grown ents1.size)
    revert q1 q2 q3 q4
    generalize relayAll tab2 ents1 (SetTable.grown ents1.size) = Y
    obtain ⟨ents2, tab3, gw⟩ := Y
    intro q1 q2 q3 q4
    dsimp only at q1 q2 q3 q4 ⊢
    have z : ents2.size = ents1.size := by simpa using q2.length_eq
    have z2 : ents2.size < scanBound := z ▸ g5
    refine wpAny_bind (hsay _ _ _ (wpAny_bind (wpAny_storeSet_of p1 rfl (wpAny_pure (hR _ (b1.trans (Heap.SameBut.update _ a _)) ?_)) (fits_of_scanBound z2))))
    exact ⟨_, ents2, _, tab3, store_at (es' := ents2) (t' := tab3) p1 rfl, g2, rfl, q1, z2, ⟨q4, g6.2.imp id fun y => q3.trans y⟩, g7.perm q2, (q2.map _).trans g8, g9⟩
  · rw [if_neg hc]
    exact wpAny_pure (hR _ b1 ⟨_, ents1, _, tab2, p1, g2, rfl, g4, g5, g6, g7, g8, g9⟩)

theorem gset_mem {ents : List (Int × Value)} (hk : Tells kd kf) (g7 : ElemsOf kd ents) (k : κ) : k ∈ ents.map (fun e => kf e.2) ↔ ∃ e ∈ ents, kd.is k e.2 = true := by
  rw [List.mem_map]
  refine ⟨fun ⟨e, he, q⟩ => ?_, fun ⟨e, he, q⟩ => ⟨e, he, hk k _ q⟩⟩
  obtain ⟨⟨k', h1, _⟩, _⟩ := g7 e he
  have := hk k' _ h1
  rw [q] at this
  subst this
  exact ⟨e, he, h1⟩

theorem gset_add {k : κ} {x : Value} {Q : Bool → Shared → Prop} (hk : Tells kd kf) (g : GSet kd kf s.heap a ms) (hx : kd.is k x = true) (hsc : x.scannable = true) (room : ms.length + 1 < scanBound)
    (hQ : ∀ b h', Heap.SameBut a s.heap h' → GSet kd kf h' a (if k ∈ ms then ms else k :: ms) → Q b { s with heap := h' }) :
    wpAny (model P w) A (setAddHashed a x (kd.hash k)) Q E s := by
  obtain ⟨ob, ents, ep, tab, g1, g2, g3, g4, g5, g6, g7, g8, g9⟩ := id g
  have hin : k ∈ ms ↔ ∃ e ∈ ents.toList, kd.is k e.2 = true := by rw [← g8.mem_iff]; exact gset_mem hk g7 k
  unfold setAddHashed setAddHashedIn
  refine wpAny_holding (wpAny_bind (wpAny_setState_of g1 g3 g4 ?_))
  dsimp only
  rw [byScan_of hsc g5 g7, if_pos rfl]
  unfold setAddByScan
  refine wpAny_bind (wpAny_bind (wpAny_rule (wpAny_bind (wpAny_setScan_of hx g1 g3 g4 g7 ?_))))
  rcases hf : List.findIdx? (fun e => kd.is k e.2) ents.toList with _ | j
  · have hno : k ∉ ms := fun y => by
      obtain ⟨e, he, q⟩ := hin.mp y
      rw [List.findIdx?_eq_none_iff.mp hf e he] at q
      cases q
    rw [hf]
    dsimp only
    rw [if_neg hno] at hQ
    have q1 := layNew_fits tab ents (kd.hash k) x
    have q2 := layNew_perm tab ents (kd.hash k) x
    have q3 := layNew_led tab ents (kd.hash k) x
    have q4 := layNew_ris tab ents (kd.hash k) x g6.1
    revert q1 q2 q3 q4
    generalize layNew tab ents (kd.hash k) x = Y
    obtain ⟨ents1, tab1, wd, gw⟩ := Y
    intro q1 q2 q3 q4
    dsimp only at q1 q2 q3 q4 ⊢
    rw [Array.toList_push] at q2
    have y7 : ElemsOf kd ents1.toList := (g7.push hx hsc).perm q2
    have y8 : (ents1.toList.map fun e => kf e.2).Perm (k :: ms) := by
      refine (q2.map fun e => kf e.2).trans ?_
      rw [List.map_append]
      refine (List.perm_append_comm).trans ?_
      show (kf x :: _).Perm _
      rw [hk k x hx]
      exact g8.cons k
    have y9 : (k :: ms).Nodup := List.nodup_cons.mpr ⟨hno, g9⟩
    have z : ents1.size = ms.length + 1 := by
      have := y8.length_eq
      simpa using this
    have y6 : w.params.followText "set-order" = true ∨ tab1.led = true := g6.2.imp id fun y => q3.trans y
    have y5 : ents1.size < scanBound := by rw [z]; exact room
    have say : ∀ (b : Bool) (s₁ : Shared) (Q' : Unit → Shared → Prop), Q' () s₁ → wpAny (model P w) A (match b with | true => rule "set.scan.the-table-gave-way" | false => pure ()) Q' E s₁ := fun b s₁ Q' q => by
      cases b
      · exact wpAny_pure q
      · exact wpAny_rule q
    refine wpAny_bind (say gw s _ ?_)
    by_cases hp : tab1.plain = true
    · rw [if_pos hp, hashByValue_scannable 8 hsc]
      refine wpAny_bind (wpAny_pure ?_)
      refine gset_tail (ms := k :: ms) (kf := kf) say g1 g2 g3 ?_ y5 ?_ y7 y8 y9 fun h' sb r => ?_
      · split
        · exact q1
        · exact SetTable.fits_plain_off q1
      · split <;> exact ⟨q4, y6⟩
      · exact wpAny_pure (hQ true h' sb r)
    · rw [if_neg hp]
      refine wpAny_bind (wpAny_pure ?_)
      refine gset_tail (ms := k :: ms) (kf := kf) say g1 g2 g3 ?_ y5 ?_ y7 y8 y9 fun h' sb r => ?_
      · exact q1
      · exact ⟨q4, y6⟩
      · exact wpAny_pure (hQ true h' sb r)
  · obtain ⟨hj, pj, _⟩ := List.findIdx?_eq_some_iff_getElem.mp hf
    have hyes : k ∈ ms := hin.mpr ⟨ents.toList[j], List.getElem_mem hj, pj⟩
    rw [hf]
    dsimp only
    rw [if_pos hyes] at hQ
    exact wpAny_pure (wpAny_pure (hQ false s.heap (Heap.SameBut.refl a s.heap) g))
end
end Av

/-! set(t), sorted(set(t)) of keys of one kind -/
namespace Av
open PySem PySem.Spec PyProof.Rows L2

section
variable {P : Program} {w : World} {κ : Type} [DecidableEq κ]
def addM (ms : List κ) (k : κ) : List κ := if k ∈ ms then ms else k :: ms
def accM (ks : List κ) : List κ := ks.foldl addM []
theorem accM_snoc (ks : List κ) (k : κ) : accM (ks ++ [k]) = addM (accM ks) k := by
  unfold accM
  rw [List.foldl_append]
  rfl
theorem addM_len (ms : List κ) (k : κ) : (addM ms k).length ≤ ms.length + 1 := by
  unfold addM
  split
  · omega
  · simp
theorem accM_len : ∀ (ks : List κ), (accM ks).length ≤ ks.length := by
  suffices h : ∀ (ks ms : List κ), (ks.foldl addM ms).length ≤ ms.length + ks.length by
    intro ks
    have := h ks []
    simpa [accM] using this
  intro ks
  induction ks with
  | nil => intro ms; simp
  | cons k ks ih =>
    intro ms
    have h1 := ih (addM ms k)
    have h2 := addM_len ms k
    simp only [List.foldl_cons, List.length_cons]
    omega
variable {kd : KeyKind P w κ} {kf : Value → κ} {A : Around} {E : Value → Shared → Prop} {s : Shared}
/-- the loop of set.update -/
theorem gset_loop {it : Addr} {fp wr : List Addr} {G : Array GenState → Array GenState → Prop} {n : Nat} {Pv : Nat → Value → Prop} {St : Nat → Shared → Prop} {R : Result → Shared → Prop} (hk : Tells kd kf)
    (W : WalksS P w A.in1 it fp wr G n Pv St) {S : Addr} (hS : S ∉ fp) {ks : List κ} (hn : n = ks.length) (hb : ks.length + 1 < scanBound) (hv : ∀ i v, Pv i v → ∃ k, ks[i]? = some k ∧ kd.is k v = true ∧ v.scannable = true) :
    ∀ (d i : Nat) (s : Shared), i + d = n → St i s → GSet kd kf s.heap S (accM (ks.take i)) → (∀ s', Moved (S :: wr) G s s' → GSet kd kf s'.heap S (accM ks) → R (.ok (.ret .none)) s') →
      codeAny (model P w) A (.builtin "set.update.loop" ⟨[.ref S, .ref it], []⟩) R s
  | 0, i, s, e, st, g, q => by
    obtain rfl : i = n := by omega
    have hw : S ∉ wr := fun y => hS (W.sub _ y)
    refine codeAny_builtin F.entry_set_update_loop ?_
    rw [Around.under_plainId F.plain_set_update_loop _]
    show wpAny _ A.in1 (pyNext (.ref it) >>= _) _ _ s
    refine wpAny_bind (W.done s _ _ st fun s' hm => ?_)
    show wpAny _ A.in1 (ret Value.none) _ _ s'
    rw [List.take_of_length_le (Nat.le_of_eq hn.symm)] at g
    exact wpAny_pure (q s' (hm.mono fun b y => List.mem_cons_of_mem _ y) (g.keep fun o y => hm.heap S o hw y))
  | d + 1, i, s, e, st, g, q => by
    have hw : S ∉ wr := fun y => hS (W.sub _ y)
    have hi : i < n := by omega
    refine codeAny_builtin F.entry_set_update_loop ?_
    rw [Around.under_plainId F.plain_set_update_loop _]
    show wpAny _ A.in1 (pyNext (.ref it) >>= _) _ _ s
    refine wpAny_bind (W.item i s _ _ hi st fun v s1 hp st1 m1 => ?_)
    obtain ⟨k, e1, e2, e3⟩ := hv i v hp
    have g1 := g.keep fun o y => m1.heap S o hw y
    show wpAny _ A.in1 (holding [v] (setAdd S v) >>= _) _ _ s1
    refine wpAny_bind (wpAny_holding ?_)
    unfold setAdd
    refine wpAny_holding (wpAny_bind (kd.pyHash e2 ?_))
    have hlen : (accM (ks.take i)).length + 1 < scanBound := by
      have h1 := accM_len (ks.take i)
      have h2 := List.length_take_le i ks
      omega
    refine gset_add (s := { s1 with toks := s1.toks + 1 }) hk g1 e2 e3 hlen fun b h' sb g2 => ?_
    have g3 : GSet kd kf h' S (accM (ks.take (i + 1))) := by
      rw [List.take_add_one, e1]
      exact (accM_snoc (ks.take i) k) ▸ g2
    refine wpAny_pure ⟨plainId_quiet F.plain_set_update_loop _, gset_loop hk W hS hn hb hv d (i + 1) _ (by omega) (W.frame _ s1 _ _ st1 (Nat.le_succ _) fun c hc o y => ?_) g3 fun s2 m2 g4 => ?_⟩
    · rw [sb.2 c fun z => hS (z ▸ hc)]
      exact y
    · refine q s2 (Moved.trans W.gtrans ((m1.mono fun c y => List.mem_cons_of_mem _ y).then_heap (Nat.le_succ _) fun c o hc y => ?_) m2) g4
      rw [sb.2 c fun z => hc (z ▸ List.mem_cons_self)]
      exact y
/-- an empty set, as it is made -/
abbrev set0 (w : World) : Obj := { cls := .type "set", dict := none, data := .set #[] 0 (.fresh 0 0 (!w.params.followText "set-order")) }
theorem call_gset_tuple {l : Addr} {items : Array Value} {ks : List κ} {Q : Value → Shared → Prop} (hk : Tells kd kf) (hh : A.handled = none) (hl : s.heap.IsTuple l items) (hn : items.size = ks.length) (hb : ks.length + 1 < scanBound)
    (hv : ∀ (i : Nat) (v : Value), items[i]? = some v → ∃ k, ks[i]? = some k ∧ kd.is k v = true ∧ v.scannable = true)
    (q : ∀ h' tk, GSet kd kf h' s.heap.objs.size (accM ks) → (∀ b o, s.heap.get? b = some o → h'.get? b = some o) → Q (.ref s.heap.objs.size) { s with heap := h', toks := tk }) :
    wpAny (model P w) A (call (.type "set") [.ref l]) Q E s := by
  obtain ⟨c, tl, y1⟩ := F.called_set.mro
  have y2 := F.called_set.made
  have y3 := F.called_set.sub
  have y4 := F.called_set.notType
  have y5 := F.called_set.canCreate
  have y6 := F.typeCall_set_1 (.ref l)
  refine wpAny_call (codeAny_of_tree ?_)
  show wpAny _ _ (callAny (.type "set") _) _ _ _
  refine wpAny_pure ⟨Code.quiet_builtin _ (by decide +kernel), codeAny_builtin F.entry_type_call ?_⟩
  rw [Around.under_plain (weight_type_call_type "set" [.ref l] []) rfl]
  repeat (any_goals (first | assumption | wp_step))
  refine codeAny_mono (code_set_led1 (.ref l) (E := E) (Q₁ := fun x s₁ => x = .ref s.heap.objs.size ∧ s₁ = { s with heap := s.heap.push (set0 w) }) ⟨rfl, rfl⟩) fun r s₁ hr => ?_
  rcases r with e | fl
  · exact hr
  cases fl <;> try exact hr.elim
  obtain ⟨rfl, rfl⟩ := hr
  have z1 : (s.heap.push (set0 w)).get? s.heap.objs.size = some (set0 w) := Heap.get?_push_size _ rfl
  have z2 : Shared.TypeIs { s with heap := s.heap.push (set0 w) } (.ref s.heap.objs.size) "set" := ⟨_, z1, rfl⟩
  have z3 := F.called_set.init.lookup
  have z4 := F.called_set.init.bind (.ref s.heap.objs.size)
  repeat (any_goals (first | assumption | wp_step))
  refine codeAny_mono (codeAny_call_builtin (R := wants (fun r s₂ => r = .none ∧ ∃ h' tk, s₂ = { s with heap := h', toks := tk } ∧ GSet kd kf h' s.heap.objs.size (accM ks) ∧ ∀ b o, s.heap.get? b = some o → h'.get? b = some o) E)
    F.called_set.init.plain F.entry_set_init (check_set_init_1 z2 ?_)) fun r₂ s₂ hr₂ => ?_
  · obtain ⟨⟨k1, k2, k3, k4⟩, o1, o2, n3, o4⟩ := hl
    simp only at o2 o4
    subst o2 o4
    have u1 := F.sub_tuple_set
    have u2 := F.sub_tuple_frozenset
    have u3 : (Value.type "tuple" == Value.type "dict") = false := by decide
    have u4 : (s.heap.push (set0 w)).get? l = some { cls := .type "tuple", dict := k2, data := .seq items n3, slots := k4 } := Heap.get?_push_of_some _ o1
    have u5 : (s.heap.push (set0 w)).IsTuple l items := ⟨_, u4, rfl, n3, rfl⟩
    unfold Builtin.«set.__init__» noKeywords Builtin.Frozenset.updateFrom
    generalize hPI : pyIter = PI
    wp_walk
    subst hPI
    have v1 : l < s.heap.objs.size := Heap.lt_size o1
    have v0 : (s.heap.push (set0 w)).objs.size = s.heap.objs.size + 1 := Heap.size_push ..
    have v2 : l ≠ (s.heap.push (set0 w)).objs.size := by rw [v0]; exact Nat.ne_of_lt (Nat.lt_succ_of_lt v1)
    have v3 : A.in1.in1.in1.handled = none := by simp [hh]
    have v4 : s.heap.objs.size ∉ [(s.heap.push (set0 w)).objs.size, l] := by
      rw [v0]
      simp only [List.mem_cons, List.not_mem_nil, or_false, not_or]
      exact ⟨Nat.ne_of_lt (Nat.lt_succ_self _), (Nat.ne_of_lt v1).symm⟩
    refine wpAny_pyIter_tuple u5 (wpAny_bind (wpAny_runValue ?_))
    refine gset_loop hk ((Walks.tuple v3 _ l v2 items).toS) v4 hn hb hv items.size 0 _ (Nat.zero_add _) ⟨⟨_, Heap.get?_push_size _ rfl, rfl, rfl⟩, (u5.push _)⟩ (GSet.start (Heap.get?_push_of_some _ z1) ⟨rfl, rfl, rfl⟩ rfl) fun s' hm g => ?_
    obtain ⟨h', x2, x3, x4, x5⟩ := s'
    have w1 : x2 = s.gens := hm.gens
    have w2 : x3 = s.drawn := hm.drawn
    have w3 : x5 = s.os := hm.os
    subst w1 w2 w3
    show wpAny _ _ _ _ _ _
    refine wpAny_pure ?_
    show wpAny _ _ (ret Value.none) _ _ _
    refine wpAny_pure ⟨rfl, h', x4, rfl, g, fun b o e => ?_⟩
    have b1 := Heap.lt_size e
    refine hm.heap b o ?_ (Heap.get?_push_of_some _ (Heap.get?_push_of_some _ e))
    show b ∉ [_, _]
    simp only [List.mem_cons, List.not_mem_nil, or_false, not_or]
    exact ⟨Nat.ne_of_lt b1, fun z => absurd b1 (Nat.not_lt_of_le (by rw [z]; exact Nat.le_trans (Nat.le_succ _) (Nat.le_of_eq v0.symm)))⟩
  · rcases r₂ with e | fl₂
    · exact hr₂
    cases fl₂ <;> try exact hr₂.elim
    obtain ⟨rfl, h', tk, rfl, g, kp⟩ := hr₂
    repeat (any_goals (first | assumption | wp_step))
    exact q _ _ g kp
theorem call_gset_list {l : Addr} {items : Array Value} {ks : List κ} {Q : Value → Shared → Prop} (hk : Tells kd kf) (hh : A.handled = none) (hl : s.heap.IsList l items) (hn : items.size = ks.length) (hb : ks.length + 1 < scanBound)
    (hv : ∀ (i : Nat) (v : Value), items[i]? = some v → ∃ k, ks[i]? = some k ∧ kd.is k v = true ∧ v.scannable = true)
    (q : ∀ h' tk, GSet kd kf h' s.heap.objs.size (accM ks) → (∀ b o, s.heap.get? b = some o → h'.get? b = some o) → Q (.ref s.heap.objs.size) { s with heap := h', toks := tk }) :
    wpAny (model P w) A (call (.type "set") [.ref l]) Q E s := by
  obtain ⟨c, tl, y1⟩ := F.called_set.mro
  have y2 := F.called_set.made
  have y3 := F.called_set.sub
  have y4 := F.called_set.notType
  have y5 := F.called_set.canCreate
  have y6 := F.typeCall_set_1 (.ref l)
  refine wpAny_call (codeAny_of_tree ?_)
  show wpAny _ _ (callAny (.type "set") _) _ _ _
  refine wpAny_pure ⟨Code.quiet_builtin _ (by decide +kernel), codeAny_builtin F.entry_type_call ?_⟩
  rw [Around.under_plain (weight_type_call_type "set" [.ref l] []) rfl]
  repeat (any_goals (first | assumption | wp_step))
  refine codeAny_mono (code_set_led1 (.ref l) (E := E) (Q₁ := fun x s₁ => x = .ref s.heap.objs.size ∧ s₁ = { s with heap := s.heap.push (set0 w) }) ⟨rfl, rfl⟩) fun r s₁ hr => ?_
  rcases r with e | fl
  · exact hr
  cases fl <;> try exact hr.elim
  obtain ⟨rfl, rfl⟩ := hr
  have z1 : (s.heap.push (set0 w)).get? s.heap.objs.size = some (set0 w) := Heap.get?_push_size _ rfl
  have z2 : Shared.TypeIs { s with heap := s.heap.push (set0 w) } (.ref s.heap.objs.size) "set" := ⟨_, z1, rfl⟩
  have z3 := F.called_set.init.lookup
  have z4 := F.called_set.init.bind (.ref s.heap.objs.size)
  repeat (any_goals (first | assumption | wp_step))
  refine codeAny_mono (codeAny_call_builtin (R := wants (fun r s₂ => r = .none ∧ ∃ h' tk, s₂ = { s with heap := h', toks := tk } ∧ GSet kd kf h' s.heap.objs.size (accM ks) ∧ ∀ b o, s.heap.get? b = some o → h'.get? b = some o) E)
    F.called_set.init.plain F.entry_set_init (check_set_init_1 z2 ?_)) fun r₂ s₂ hr₂ => ?_
  · obtain ⟨⟨k1, k2, k3, k4⟩, o1, o2, n3, o4⟩ := hl
    simp only at o2 o4
    subst o2 o4
    have u1 := F.sub_list_set
    have u2 := F.sub_list_frozenset
    have u3 : (Value.type "list" == Value.type "dict") = false := by decide
    have u4 : (s.heap.push (set0 w)).get? l = some { cls := .type "list", dict := k2, data := .seq items n3, slots := k4 } := Heap.get?_push_of_some _ o1
    have u5 : (s.heap.push (set0 w)).IsList l items := ⟨_, u4, rfl, n3, rfl⟩
    unfold Builtin.«set.__init__» noKeywords Builtin.Frozenset.updateFrom
    generalize hPI : pyIter = PI
    wp_walk
    subst hPI
    have v1 : l < s.heap.objs.size := Heap.lt_size o1
    have v0 : (s.heap.push (set0 w)).objs.size = s.heap.objs.size + 1 := Heap.size_push ..
    have v2 : l ≠ (s.heap.push (set0 w)).objs.size := by rw [v0]; exact Nat.ne_of_lt (Nat.lt_succ_of_lt v1)
    have v3 : A.in1.in1.in1.handled = none := by simp [hh]
    have v4 : s.heap.objs.size ∉ [(s.heap.push (set0 w)).objs.size, l] := by
      rw [v0]
      simp only [List.mem_cons, List.not_mem_nil, or_false, not_or]
      exact ⟨Nat.ne_of_lt (Nat.lt_succ_self _), (Nat.ne_of_lt v1).symm⟩
    refine wpAny_pyIter_list u5 (wpAny_bind (wpAny_runValue ?_))
    refine gset_loop hk ((Walks.list v3 _ l v2 items).toS) v4 hn hb hv items.size 0 _ (Nat.zero_add _) ⟨⟨_, Heap.get?_push_size _ rfl, rfl, rfl⟩, (u5.push _)⟩ (GSet.start (Heap.get?_push_of_some _ z1) ⟨rfl, rfl, rfl⟩ rfl) fun s' hm g => ?_
    obtain ⟨h', x2, x3, x4, x5⟩ := s'
    have w1 : x2 = s.gens := hm.gens
    have w2 : x3 = s.drawn := hm.drawn
    have w3 : x5 = s.os := hm.os
    subst w1 w2 w3
    show wpAny _ _ _ _ _ _
    refine wpAny_pure ?_
    show wpAny _ _ (ret Value.none) _ _ _
    refine wpAny_pure ⟨rfl, h', x4, rfl, g, fun b o e => ?_⟩
    have b1 := Heap.lt_size e
    refine hm.heap b o ?_ (Heap.get?_push_of_some _ (Heap.get?_push_of_some _ e))
    show b ∉ [_, _]
    simp only [List.mem_cons, List.not_mem_nil, or_false, not_or]
    exact ⟨Nat.ne_of_lt b1, fun z => absurd b1 (Nat.not_lt_of_le (by rw [z]; exact Nat.le_trans (Nat.le_succ _) (Nat.le_of_eq v0.symm)))⟩
  · rcases r₂ with e | fl₂
    · exact hr₂
    cases fl₂ <;> try exact hr₂.elim
    obtain ⟨rfl, h', tk, rfl, g, kp⟩ := hr₂
    repeat (any_goals (first | assumption | wp_step))
    exact q _ _ g kp
end
end Av

/-! sorted(set(t)) of texts, by data -/
namespace Av
open PySem PySem.Spec PyProof.Rows L2
open PySem.W (EachIs)

def strV : Value → Str
  | .str x _ => x
  | _ => Str.empty
theorem tells_str {P : Program} {w : World} : Tells (PySem.strKind P w) strV := fun k v h => by
  obtain ⟨t, rfl⟩ := Value.isStrOf_shape h
  rfl
def sle (x y : Str) : Bool := !decide (y.cps.toList < x.cps.toList)
theorem sle_data (x y : Str) : PySem.W.dataLe false PyData.str x y = sle x y := by
  show (!PySem.W.dataLt (toP (.str y)) (toP (.str x))) = _
  rw [lt_toP _ _ rfl]
  rfl
theorem sle_anti {x y : Str} (h1 : sle x y = true) (h2 : sle y x = true) : x = y := by
  unfold sle at h1 h2
  simp only [Bool.not_eq_true', decide_eq_false_iff_not] at h1 h2
  exact PySem.W.str_of_cps (List.le_antisymm h1 h2)
theorem sle_total : PySem.W.TotalLe sle := by
  have e : sle = PySem.W.dataLe false PyData.str := by
    funext x y
    exact (sle_data x y).symm
  rw [e]
  exact PySem.W.sortLe_total _ _ _
/-- the texts, each once, in order -/
def usortS (ks : List Str) : List Str := isort sle (accM ks)
section
variable {P : Program} {w : World} {A : Around} {E : Value → Shared → Prop} {s : Shared} {a : Addr} {ms : List Str}
theorem isort_perm {α : Type} {le : α → α → Bool} : ∀ l : List α, (isort le l).Perm l := by
  have hi : ∀ (x : α) (l : List α), (ins le x l).Perm (x :: l) := by
    intro x l
    induction l with
    | nil => exact List.Perm.refl _
    | cons y ys ih =>
      unfold ins
      split
      · exact List.Perm.refl _
      · exact (ih.cons y).trans (List.Perm.swap x y ys)
  intro l
  induction l with
  | nil => exact List.Perm.refl _
  | cons x xs ih => exact (hi x _).trans (ih.cons x)
theorem isort_same {xs ys : List Str} (h : xs.Perm ys) : isort sle xs = isort sle ys :=
  List.Perm.eq_of_pairwise (le := fun x y => sle x y = true) (fun _ _ _ _ h1 h2 => sle_anti h1 h2) (isort_pairwise sle_total) (isort_pairwise sle_total) ((isort_perm xs).trans (h.trans (isort_perm ys).symm))
theorem each_strs : ∀ {vs : List Value}, (∀ v ∈ vs, ∃ x t, v = .str x t) → EachIs (fun v (x : Str) => ∃ t, v = .str x t) vs (vs.map strV)
  | [], _ => .nil
  | v :: vs, h => by
    obtain ⟨x, t, rfl⟩ := h v List.mem_cons_self
    exact .cons ⟨t, rfl⟩ (each_strs fun u hu => h u (List.mem_cons_of_mem _ hu))
theorem sorted_gset {Q : Value → Shared → Prop} (g : GSet (PySem.strKind P w) strV s.heap a ms) (hh : A.handled = none) (hu : A.units + 64 < cLine)
    (q : ∀ s' p (out : List Value) (c : Nat), (∀ b o, s.heap.get? b = some o → s'.heap.get? b = some o) → s'.gens = s.gens → s'.os = s.os → s.heap.objs.size ≤ p → s'.heap.get? p = some (seqObj "list" out.toArray c) → out.length ≤ sizeLine →
      EachIs (fun v (x : Str) => ∃ t, v = .str x t) out (isort sle ms) → Q (.ref p) s') :
    wpAny (model P w) A (call (.builtin "sorted") [.ref a]) Q E s := by
  obtain ⟨ob, ents, ep, tab, g1, g2, g3, g4, g5, g6, g7, g8, g9⟩ := g
  refine Calls.call_function_entry kind_sorted plain_sorted entry_sorted (args_sorted1 _) ?_
  unfold Builtin.«sorted»
  refine wpAny_bind (m := checkCount "sorted" 1 1 _) (wpAny_pure (wpAny_bind (collect_set (A := A.in1) hh ⟨ob, g1, g2.1, g3⟩ g4 g5 g6.1 g6.2 fun s1 vs k1 z1 e1 e2 pm => ?_)))
  have hs : ∀ v ∈ vs, ∃ x t, v = .str x t := fun v hv => by
    obtain ⟨e, he, y⟩ := List.mem_map.mp (pm.mem_iff.mp hv)
    obtain ⟨⟨k, hk, _⟩, _⟩ := g7 e he
    obtain ⟨t, ht⟩ := Value.isStrOf_shape hk
    exact ⟨k, t, by rw [← y, ht]⟩
  have each := each_strs hs
  have pk : (vs.map strV).Perm ms := by
    have y := pm.map strV
    rw [List.map_map] at y
    exact y.trans g8
  have hl : vs.length ≤ sizeLine := by
    rw [pm.length_eq, List.length_map, Array.length_toList]
    exact fits_of_scanBound g5
  refine wpAny_bind (wpAny_newList ?_ hl)
  have hL : (s1.heap.push (seqObj "list" vs.toArray 0)).get? s1.heap.objs.size = some (seqObj "list" vs.toArray 0) := Heap.get?_push_size _ rfl
  have hl2 : (vs.map strV).length ≤ sizeLine := by rw [List.length_map]; exact hl
  refine wpAny_bind (wpAny_holding (PySem.W.list_sort_data (enc := PyData.str) (bs := vs.map strV) hL each ?_ ?_ ?_ hl2 ?_ fun out ho eo => ?_))
  · exact each.mono fun v x ⟨t, e⟩ => ⟨[], by rw [e]; exact ⟨.str x t, by simp⟩⟩
  · intro x hx y hy
    obtain ⟨x', _, rfl⟩ := List.mem_map.mp hx
    obtain ⟨y', _, rfl⟩ := List.mem_map.mp hy
    rfl
  · refine .inr fun d hd => ?_
    obtain ⟨x', _, rfl⟩ := List.mem_map.mp hd
    exact ⟨fun z => (by cases z), fun xs z => (by cases z)⟩
  · intro x _
    show A.in1.units + 1 + PyData.depth (.str x) < cLine
    have : PyData.depth (.str x) = 0 := rfl
    have h2 : A.in1.units = A.units + 1 := rfl
    omega
  · obtain ⟨c, hc⟩ := sortedHeap_at (vs := vs) (out := out.toArray) hL
    have em : (vs.map strV).mergeSort (PySem.W.dataLe false PyData.str) = isort sle ms := by
      have e : PySem.W.dataLe false PyData.str = sle := by
        funext x y
        exact sle_data x y
      rw [e, ← isort_merge sle_total]
      exact isort_same pk
    rw [em] at eo
    refine wpAny_pure ⟨_, rfl, q _ s1.heap.objs.size out c (fun b u e => ?_) e1 e2 z1 hc (by rw [ho]; exact hl2) eo⟩
    have y := k1 b u e
    have hlt := Heap.lt_size y
    show (sortedHeap (s1.heap.push (seqObj "list" vs.toArray 0)) s1.heap.objs.size vs out.toArray).get? b = some u
    rw [sortedHeap_old (Nat.ne_of_lt hlt) (by rw [size_push']; exact Nat.lt_succ_of_lt hlt)]
    exact Heap.get?_push_of_some _ y
end
end Av

/-! methods of texts -/
namespace Av
open PySem PySem.Spec PyProof.Rows L2
section
variable {fx : Fx} {X : Cx} {Wx : WX} {o e a b c : Expr} {pos apos : Pos}
def MtS0 (fx : Fx) (X : Cx) (id : String) (g : Str → Option RV) : Prop :=
  ∃ r, MtR X id r ∧ ∀ F G H sd σ z rv Q, SR (wd X) fx F G H sd σ → g z = some rv →
    (∀ F' G' H' w, Same F F' → Same G G' → SR (wd X) fx F' G' H' sd σ → RVR (wd X) fx F' G' H' sd σ rv w → Q w H') → r (.str z) [] H Q
def MtS1 (fx : Fx) (X : Cx) (id : String) (g : Str → D → Option RV) : Prop :=
  ∃ r, MtR X id r ∧ ∀ F G H sd σ z y u rv Q, SR (wd X) fx F G H sd σ → Rep (wd X) H y u → g z y = some rv →
    (∀ F' G' H' w, Same F F' → Same G G' → SR (wd X) fx F' G' H' sd σ → RVR (wd X) fx F' G' H' sd σ rv w → Q w H') → r (.str z) [u] H Q
def mM0 (g : Str → Option RV) (ma : M RV) : M RV := mBind ma fun ra => mBind (mRead ra.keep) fun x => mBind (mGet x.str?) fun z => mGet (g z)
def mM1 (g : Str → D → Option RV) (ma mb : M RV) : M RV := mBind ma fun ra => mBind (mRead ra.keep) fun x => mBind (mGet x.str?) fun z => mBind mb fun rb => mBind (mRead rb.keep) fun y => mGet (g z y)
theorem str?_some {d : D} {z : Str} (h : d.str? = some z) : d = .str z := by
  cases d <;> cases h
  rfl
theorem se_m0 {id : String} {name : Str} {g : Str → Option RV} {ma : M RV} (h : MtS0 fx X id g) (slot : Slot "str" name id) (ty : typeOf (.builtin id) = pure (.type "method_descriptor")) (ha : SE fx X Wx o ma)
    (hbase : attributeBase o name X.env (eval o X.env) = eval o X.env := by rfl) (hline : (apos.endLine == pos.line) = true := by rfl) : SE fx X Wx (.Call (.Attribute o name apos) [] [] pos) (mM0 g ma) := by
  obtain ⟨r, h1, h2⟩ := h
  obtain ⟨ta, pa, qa⟩ := ha.ex
  refine ⟨_, pe_m0 slot ty h1 pa hbase hline, fun F G H sd σ Q S h => one qa S h fun F1 G1 H1 sd1 ra v e1 e2 S1 r1 h => ?_⟩
  obtain ⟨x, k1, h⟩ := h.read
  obtain ⟨z, k2, h⟩ := h.getB
  obtain ⟨rv, k3, h⟩ := h.get
  have q := r1.read S1 k1
  rw [str?_some k2] at q
  rw [q.str_inv]
  exact ⟨⟨z, rfl⟩, h2 F1 G1 H1 sd1 σ z rv Q S1 k3 h⟩
theorem se_m1 {id : String} {name : Str} {g : Str → D → Option RV} {ma mb : M RV} (h : MtS1 fx X id g) (slot : Slot "str" name id) (ty : typeOf (.builtin id) = pure (.type "method_descriptor")) (ha : SE fx X Wx o ma) (hb : SE fx X Wx e mb)
    (hs : starEach [e] X.env = [(false, eval e X.env)] := by rfl) (hbase : attributeBase o name X.env (eval o X.env) = eval o X.env := by rfl) (hline : (apos.endLine == pos.line) = true := by rfl) : SE fx X Wx (.Call (.Attribute o name apos) [e] [] pos) (mM1 g ma mb) := by
  obtain ⟨r, h1, h2⟩ := h
  obtain ⟨ta, pa, qa⟩ := ha.ex
  obtain ⟨tb, pb, qb⟩ := hb.ex
  refine ⟨_, pe_m1 slot ty h1 pa pb hs hbase hline, fun F G H sd σ Q S h => one qa S h fun F1 G1 H1 sd1 ra v e1 e2 S1 r1 h => ?_⟩
  obtain ⟨x, k1, h⟩ := h.read
  obtain ⟨z, k2, h⟩ := h.getB
  have q := r1.read S1 k1
  rw [str?_some k2] at q
  rw [q.str_inv]
  refine ⟨⟨z, rfl⟩, one qb S1 h fun F2 G2 H2 sd2 rb u e3 e4 S2 r2 h => ?_⟩
  obtain ⟨y, k4, h⟩ := h.read
  obtain ⟨rv, k3, h⟩ := h.get
  exact h2 F2 G2 H2 sd2 σ z y u rv Q S2 (r2.read S2 k4) k3 h

/-! ### without arguments -/
def gUpper (z : Str) : Option RV := if z.length ≤ 5592405 then some (.val (.str (Txt.upper z))) else none
theorem ms_upper : MtS0 fx X "str.upper" gUpper := ⟨_, mt_upper, fun F G H sd σ z rv Q S h k => by
  unfold gUpper at h
  split at h
  · rename_i hz
    cases h
    exact ⟨z, rfl, rfl, hz, out_flat S k (.str _)⟩
  · cases h⟩
def gLower (z : Str) : Option RV := if z.length ≤ 5592405 then some (.val (.str (Txt.lower z))) else none
theorem ms_lower : MtS0 fx X "str.lower" gLower := ⟨_, mt_lower, fun F G H sd σ z rv Q S h k => by
  unfold gLower at h
  split at h
  · rename_i hz
    cases h
    exact ⟨z, rfl, rfl, hz, out_flat S k (.str _)⟩
  · cases h⟩
/-! ### with one -/
def gStarts (z : Str) : D → Option RV
  | .str y => some (.val (.bl (Txt.startswith z y)))
  | _ => none
theorem ms_starts : MtS1 fx X "str.startswith" gStarts := ⟨_, mt_startswith, fun F G H sd σ z y u rv Q S r h k => by
  cases y <;> cases h
  exact ⟨z, _, rfl, by rw [r.str_inv], out_flat S k (.bl _)⟩⟩
def gEnds (z : Str) : D → Option RV
  | .str y => some (.val (.bl (Txt.endswith z y)))
  | _ => none
theorem ms_ends : MtS1 fx X "str.endswith" gEnds := ⟨_, mt_endswith, fun F G H sd σ z y u rv Q S r h k => by
  cases y <;> cases h
  exact ⟨z, _, rfl, by rw [r.str_inv], out_flat S k (.bl _)⟩⟩
def gFind (z : Str) : D → Option RV
  | .str y => some (.val (.int (Txt.find z y)))
  | _ => none
theorem ms_find : MtS1 fx X "str.find" gFind := ⟨_, mt_find, fun F G H sd σ z y u rv Q S r h k => by
  cases y <;> cases h
  exact ⟨z, _, rfl, by rw [r.str_inv], out_flat S k (.int _)⟩⟩
def gCount (z : Str) : D → Option RV
  | .str y => some (.val (.int (Txt.count z y)))
  | _ => none
theorem ms_count : MtS1 fx X "str.count" gCount := ⟨_, mt_count, fun F G H sd σ z y u rv Q S r h k => by
  cases y <;> cases h
  exact ⟨z, _, rfl, by rw [r.str_inv], out_flat S k (.int _)⟩⟩
def gSplit (z : Str) : D → Option RV
  | .str y => if (y.length == 0) = false ∧ z.length + 2 ≤ sizeLine then some (.fresh (.lst ((Txt.split z y).map .str))) else none
  | _ => none
theorem RepL.strs {W : Wd} {H : Hp} (ks : List Str) : RepL W H (ks.map D.str) (ks.map V.str) := ⟨by simp, fun i d v h1 h2 => by
  rw [List.getElem?_map] at h1 h2
  cases e : ks[i]? with
  | none => rw [e] at h1; cases h1
  | some x =>
    rw [e] at h1 h2
    cases h1
    cases h2
    exact .str x⟩
theorem ms_split : MtS1 fx X "str.split" gSplit := ⟨_, mt_split, fun F G H sd σ z y u rv Q S r h k => by
  cases y <;> try (cases h; done)
  rename_i y
  dsimp only [gSplit] at h
  split at h
  · rename_i hz
    cases h
    exact ⟨z, y, rfl, by rw [r.str_inv], hz.1, hz.2, fun p hp => out_newLst S k (RepL.strs _) hp⟩
  · cases h⟩
def gPartition (z : Str) : D → Option RV
  | .str y => if (y.length == 0) = false ∧ z.length ≤ sizeLine then some (.val (.tup [.str (Txt.partition z y).1, .str (Txt.partition z y).2.1, .str (Txt.partition z y).2.2])) else none
  | _ => none
theorem ms_partition : MtS1 fx X "str.partition" gPartition := ⟨_, mt_partition, fun F G H sd σ z y u rv Q S r h k => by
  cases y <;> try (cases h; done)
  rename_i y
  dsimp only [gPartition] at h
  split at h
  · rename_i hz
    cases h
    exact ⟨z, y, rfl, by rw [r.str_inv], hz.1, hz.2, fun p hp => out_newSh S k (RepL.strs [(Txt.partition z y).1, (Txt.partition z y).2.1, (Txt.partition z y).2.2]) hp⟩
  · cases h⟩
def joinOk (z : Str) (ks : List Str) : Bool := decide ((ks.map (·.length)).sum + ks.length * z.length ≤ 16777216)
def gJoin (z : Str) : D → Option RV
  | .tup ds => (strsOf ds).bind fun ks => if joinOk z ks then some (.val (.str (Txt.join z ks))) else none
  | .lst ds => (strsOf ds).bind fun ks => if joinOk z ks then some (.val (.str (Txt.join z ks))) else none
  | _ => none
theorem ms_join : MtS1 fx X "str.join" gJoin := ⟨_, mt_join, fun F G H sd σ z y u rv Q S r h k => by
  cases y <;> try (cases h; done)
  · rename_i ds
    unfold gJoin at h
    rw [Option.bind_eq_some_iff] at h
    obtain ⟨ks, k1, h⟩ := h
    split at h
    · rename_i hz
      cases h
      obtain ⟨p, vs, rfl, s1, l1⟩ := r.tup_inv
      obtain rfl := strsOf_rep k1 l1
      exact ⟨z, p, ks, rfl, rfl, .inr s1, of_decide_eq_true hz, out_flat S k (.str _)⟩
    · cases h
  · rename_i ds
    unfold gJoin at h
    rw [Option.bind_eq_some_iff] at h
    obtain ⟨ks, k1, h⟩ := h
    split at h
    · rename_i hz
      cases h
      obtain ⟨p, vs, rfl, s1, l1⟩ := r.lst_inv
      obtain rfl := strsOf_rep k1 l1
      exact ⟨z, p, ks, rfl, rfl, .inl s1, of_decide_eq_true hz, out_flat S k (.str _)⟩
    · cases h⟩
end
end Av

/-! sorted(set(xs)) of ints or of texts -/
namespace Av
open PySem PySem.Spec PyProof.Rows L2
open PySem.W (EachIs)
def SetG (P : Program) (w : World) (a : Addr) (ms : List Str) : HO := .ext fun h => GSet (PySem.strKind P w) strV h a ms
section
variable {fx : Fx} {X : Cx} {Wx : WX} {e a b c : Expr} {pos : Pos}
theorem setG_new {w : World} {P : Program} {H : Hp} {h : Heap} {a : Addr} {ms : List Str} (R : GSet (PySem.strKind P w) strV h a ms) : ObjOk P w H h a (SetG P w a ms) := by
  have ⟨o, _, _, _, ho, _⟩ := R
  exact ⟨R, ⟨o, ho⟩, fun h1 h2 p k => GSet.keep p k⟩
theorem setG_get {pins : List (Addr × Obj)} {σ : L2.St} {H : Hp} {s : Shared} {a : Addr} {ms : List Str} (I : Inv X pins σ H s) (ha : H a = some (SetG X.prog X.w a ms)) : GSet (PySem.strKind X.prog X.w) strV s.heap a ms := (I.hok a _ ha).1
theorem callr_or {f : Value} {r r' : List V → Hp → VK → Prop} (h : CallR X f r) (h' : CallR X f r') : CallR X f fun vs H Q => r vs H Q ∨ r' vs H Q := by
  intro pins s σ H vs us Q I rv q
  rcases q with q | q
  · exact h pins s σ H vs us Q I rv q
  · exact h' pins s σ H vs us Q I rv q
def rSetS (P : Program) (w : World) (K : PySem.W.Frag) : List V → Hp → VK → Prop := fun vs H Q => ∃ (l : Addr) (ks : List Str), vs = [.ref l] ∧ (SqT K H l (ks.map V.str) ∨ SqL K H l (ks.map V.str)) ∧ ks.length + 1 < scanBound ∧
  ∀ p, H p = none → Q (.ref p) (upd H p (SetG P w p (accM ks)))
theorem str_items {ks : List Str} {its : List Value} (rv : Vals (ks.map V.str) its) : its.length = ks.length ∧ ∀ (i : Nat) (v : Value), its[i]? = some v → ∃ k, ks[i]? = some k ∧ (∃ t, v = .str k t) := by
  have h := strs_of_vals rv
  clear rv
  induction h with
  | nil => exact ⟨rfl, fun i v h => by simp at h⟩
  | cons n t hr ih =>
    refine ⟨by simp [ih.1], fun i v h => ?_⟩
    cases i with
    | zero => simp at h; exact ⟨_, rfl, t, h.symm⟩
    | succ i => exact ih.2 i v (by simpa using h)
theorem cr_setS (hc : X.calm = true) : CallR X (.type "set") (rSetS X.prog X.w X.K) := by
  intro pins s σ H vs us Q I r h
  obtain ⟨l, ks, rfl, hs, hl, q⟩ := h
  rw [Vals.ref1 r]
  have fin : ∀ h' tk, GSet (PySem.strKind X.prog X.w) strV h' s.heap.objs.size (accM ks) → (∀ b o, s.heap.get? b = some o → h'.get? b = some o) → EP X pins σ Q (.ref s.heap.objs.size) { s with heap := h', toks := tk } := fun h' tk g kp =>
    ⟨.ref _, upd H s.heap.objs.size (SetG X.prog X.w s.heap.objs.size (accM ks)), I.laid (t' := tk) kp (Nat.le_refl _) (setG_new g), rfl, q _ (I.hok.fresh (Nat.le_refl _))⟩
  rcases hs with hs | hs
  · obtain ⟨its, rv, hh, hz⟩ := I.tuple hs
    obtain ⟨z1, z2⟩ := str_items rv
    refine call_gset_tuple (kd := PySem.strKind X.prog X.w) (kf := strV) (ks := ks) tells_str (I.ok.hd hc) hh (by simpa using z1) hl (fun i v hv => ?_) fin
    obtain ⟨k, e, t, rfl⟩ := z2 i v (by simpa using hv)
    exact ⟨k, e, PySem.strKind_is _ _ _ _, rfl⟩
  · obtain ⟨its, rv, hh, hz⟩ := I.list hs
    obtain ⟨z1, z2⟩ := str_items rv
    refine call_gset_list (kd := PySem.strKind X.prog X.w) (kf := strV) (ks := ks) tells_str (I.ok.hd hc) hh.isList (by simpa using z1) hl (fun i v hv => ?_) fin
    obtain ⟨k, e, t, rfl⟩ := z2 i v (by simpa using hv)
    exact ⟨k, e, PySem.strKind_is _ _ _ _, rfl⟩
def rSortedS (P : Program) (w : World) : List V → Hp → VK → Prop := fun vs H Q => ∃ (a : Addr) (ms : List Str), vs = [.ref a] ∧ H a = some (SetG P w a ms) ∧ ∀ p, H p = none → Q (.ref p) (upd H p (.lst ((isort sle ms).map V.str)))
theorem vals_each : ∀ {out : List Value} {ks : List Str}, EachIs (fun v (x : Str) => ∃ t, v = .str x t) out ks → Vals (ks.map V.str) out
  | _, _, .nil => .nil
  | _, _, .cons ⟨t, e⟩ r => .cons ⟨t, e⟩ (vals_each r)
theorem each_len : ∀ {out : List Value} {ks : List Str}, EachIs (fun v (x : Str) => ∃ t, v = .str x t) out ks → out.length = ks.length
  | _, _, .nil => rfl
  | _, _, .cons _ r => by simp [each_len r]
theorem cr_sortedS (hc : X.calm = true) (hu : X.A.units + 64 < cLine) : CallR X (.builtin "sorted") (rSortedS X.prog X.w) := by
  intro pins s σ H vs us Q I r h
  obtain ⟨a, ms, rfl, ha, q⟩ := h
  rw [Vals.ref1 r]
  refine sorted_gset (setG_get I ha) (I.ok.hd hc) hu fun s' p out c kp g o hp hg hz eo => ?_
  have hn : H p = none := I.hok.fresh hp
  have hlen : ((isort sle ms).map V.str).length ≤ sizeLine := by rw [List.length_map, ← each_len eo]; exact hz
  have J : Inv X pins σ (upd H p (.lst ((isort sle ms).map V.str))) { s with heap := s'.heap, gens := s'.gens, drawn := s'.drawn, toks := s'.toks } :=
    I.call (ch := []) (Un.laid kp hp hn) (I.hok.laid kp hp ⟨hlen, out, c, vals_each eo, hg⟩) (by rw [g]; exact I.bare) (fun _ z => nomatch z)
  have e : s' = { s with heap := s'.heap, gens := s'.gens, drawn := s'.drawn, toks := s'.toks } := by
    cases s'
    cases s
    cases o
    rfl
  rw [e]
  exact ⟨.ref p, _, J, rfl, q p hn⟩
def gSortSetS : D → Option RV
  | .tup ds => (strsOf ds).bind fun ks => if ks.length + 1 < 4096 then some (.fresh (.lst ((usortS ks).map .str))) else none
  | .lst ds => (strsOf ds).bind fun ks => if ks.length + 1 < 4096 then some (.fresh (.lst ((usortS ks).map .str))) else none
  | _ => none
def gSortSetA (d : D) : Option RV := match gSortSet d with
  | some r => some r
  | none => gSortSetS d
def mSortSetA (ma : M RV) : M RV := mUn gSortSetA ma
theorem se_sortSetA {p p2 pos2 : Pos} {ma : M RV} (hc : X.calm = true) (hu : X.A.units + 64 < cLine) (hg : Gl X "sorted") (hm : X.mg "sorted" = none) (hg2 : Gl X "set") (hm2 : X.mg "set" = none) (ha : SE fx X Wx a ma)
    (na2 : starEach [a] X.env = (false, eval a X.env) :: starEach [] X.env := by rfl) (na : starEach [.Call (.Name "set" p2) [a] [] pos2] X.env = (false, eval (.Call (.Name "set" p2) [a] [] pos2) X.env) :: starEach [] X.env := by rfl)
    (hpl : (backTo pos (starEach [] X.env)).any (·.1) = false := by rfl) (hpl2 : (backTo pos2 (starEach [] X.env)).any (·.1) = false := by rfl) :
    SE fx X Wx (.Call (.Name "sorted" p) [.Call (.Name "set" p2) [a] [] pos2] [] pos) (mSortSetA ma) := by
  obtain ⟨t, pa, q⟩ := ha.ex
  have pset : PE X (.Call (.Name "set" p2) [a] [] pos2) _ := pe_callTy (callr_or (cr_setT hc) (cr_setS hc)) hg2 hm2 PyProof.Rows.boot_set (pa_cons pa pa_nil na2) (by decide) (by decide) na2 hpl2
  refine ⟨_, pe_callB (callr_or (cr_sortedSet hc) (cr_sortedS hc hu)) hg hm (by rfl) (pa_cons pset pa_nil na) (by decide) (by decide) na hpl, fun F G H sd σ Q S h => one q S h fun F1 G1 H1 sd1 ra v e1 e2 S1 r1 h1 => ?_⟩
  obtain ⟨d, k1, h2⟩ := h1.read
  obtain ⟨rv, k2, h3⟩ := h2.get
  have r := r1.read S1 k1
  clear h h1 h2
  unfold gSortSetA at k2
  cases k3 : gSortSet d with
  | some rv' =>
    rw [k3] at k2
    cases k2
    left
    cases d <;> try (cases k3; done)
    rename_i ds
    unfold gSortSet at k3
    rw [Option.bind_eq_some_iff] at k3
    obtain ⟨ns, k5, k4⟩ := k3
    split at k4
    · rename_i h64
      cases k4
      have := intsOf_eq k5
      subst this
      obtain ⟨l, vs, rfl, s1, l1⟩ := r.tup_inv
      obtain rfl := l1.ints
      refine ⟨l, ns, rfl, s1, h64, fun p c hcn hp => ?_⟩
      have S2 := S1.newOwn (o := SetO X.w p (fun j => decide (j ∈ ns)) c) hp (fun _ z => by cases z) (fun _ _ z => by cases z)
      refine .inl ⟨p, _, c, rfl, upd_same, by omega, fun ms p2 hm1 hm2 hm3 hp2 => ?_⟩
      have em : ms = usort ns := strict_unique hm1 usort_pairwise fun k => by rw [hm2, usort_mem]; simp
      subst em
      exact out_newLst S2 (fun F' G' H' w => h3 F' G' H' w) (RepL.of_ints _) hp2
    · cases k4
  | none =>
    rw [k3] at k2
    clear k3
    right
    have key : ∀ (l : Addr) (ks : List Str), (SqT X.K H1 l (ks.map V.str) ∨ SqL X.K H1 l (ks.map V.str)) → ks.length + 1 < 4096 → rv = .fresh (.lst ((usortS ks).map .str)) → v = .ref l →
        rSetS X.prog X.w X.K [v] H1 (fun x H2 => (rSortedSet X.w [x] H2 Q ∨ rSortedS X.prog X.w [x] H2 Q)) := fun l ks hs hl he hv => by
      subst he hv
      refine ⟨l, ks, rfl, hs, hl, fun p hp => ?_⟩
      have S2 := S1.newOwn (o := SetG X.prog X.w p (accM ks)) hp (fun _ z => by cases z) (fun _ _ z => by cases z)
      exact .inr ⟨p, _, rfl, upd_same, fun p2 hp2 => out_newLst S2 (fun F' G' H' w => h3 F' G' H' w) (RepL.strs _) hp2⟩
    cases d <;> try (cases k2; done)
    · rename_i ds
      dsimp only [gSortSetS] at k2
      rw [Option.bind_eq_some_iff] at k2
      obtain ⟨ks, k5, k4⟩ := k2
      split at k4
      · rename_i h64
        cases k4
        obtain ⟨l, vs, rfl, s1, l1⟩ := r.tup_inv
        obtain rfl := strsOf_rep k5 l1
        exact key l ks (.inl s1) h64 rfl rfl
      · cases k4
    · rename_i ds
      dsimp only [gSortSetS] at k2
      rw [Option.bind_eq_some_iff] at k2
      obtain ⟨ks, k5, k4⟩ := k2
      split at k4
      · rename_i h64
        cases k4
        obtain ⟨l, vs, rfl, s1, l1⟩ := r.lst_inv
        obtain rfl := strsOf_rep k5 l1
        exact key l ks (.inr s1) h64 rfl rfl
      · cases k4
end
end Av

/-! in, not in a dict; one of two readings -/
namespace Av
open PySem PySem.Spec PyProof.Rows L2
section
variable {fx : Fx} {X : Cx} {Wx : WX} {e a b c : Expr} {pos : Pos}
def gInD (neg : Bool) (k : D) : D → Option RV
  | .dic t kvs => if keyOk t k then some (.val (.bl (neg.xor (dVal kvs k).isSome))) else none
  | _ => none
def rDIn (neg : Bool) : R2 := fun x y H Q => ∃ a o, y = V.ref a ∧ DGet H a x o ∧ Q (.bl (neg.xor o.isSome)) H
theorem or_dIn (neg : Bool) (hu : X.A.units + 1 < cLine) : OpR X (compareOp (if neg then .NotIn else .In)) (rDIn neg) := by
  intro pins s σ H x y v u Q I rx ry h
  obtain ⟨a, o, rfl, g, q⟩ := h
  obtain rfl : u = Value.ref a := ry
  cases neg with
  | true => exact d_notIn hu I g rx fun s3 I3 => ⟨.bl (!o.isSome), H, I3, rfl, by simpa using q⟩
  | false => exact d_in hu I g rx fun s3 I3 => ⟨.bl o.isSome, H, I3, rfl, by simpa using q⟩
theorem os_dInN (neg : Bool) (hu : X.A.units + 1 < cLine) : OpS fx X (compareOp (if neg then .NotIn else .In)) (gInD neg) := by
  refine ⟨_, or_dIn neg hu, fun F G H sd σ x y v u rv Q S r1 r2 h k => ?_⟩
  cases y <;> try (cases h; done)
  rename_i t kvs
  dsimp only [gInD] at h
  split at h
  · rename_i hk
    cases h
    obtain ⟨p, rfl, hd⟩ := rep_dic' r2
    obtain ⟨o, g, m⟩ := drel_get hd (Same.refl _) r1 hk
    refine ⟨p, o, rfl, g, ?_⟩
    have e : (dVal kvs x).isSome = o.isSome := by
      cases h1 : dVal kvs x <;> cases h2 : o <;> rw [h1, h2] at m <;> first | rfl | exact m.elim
    rw [← e]
    exact out_flat S k (.bl _)
  · cases h
theorem os_dIn (hu : X.A.units + 65 < cLine) : OpS fx X (compareOp .In) (gInD false) := os_dInN false (by omega)
theorem os_dNotIn (hu : X.A.units + 65 < cLine) : OpS fx X (compareOp .NotIn) (gInD true) := os_dInN true (by omega)
/-! ### one of two -/
def gElse (g g' : D → D → Option RV) (x y : D) : Option RV := (g x y).or (g' x y)
theorem os_else {f : Value → Value → Sem Value} {g g' : D → D → Option RV} (h : OpS fx X f g) (h' : OpS fx X f g') : OpS fx X f (gElse g g') := by
  obtain ⟨r, p, q⟩ := h
  obtain ⟨r', p', q'⟩ := h'
  refine ⟨fun x y H Q => r x y H Q ∨ r' x y H Q, fun pins s σ H x y v u Q I rx ry z => ?_, fun F G H sd σ x y v u rv Q S r1 r2 z k => ?_⟩
  · rcases z with z | z
    · exact p pins s σ H x y v u Q I rx ry z
    · exact p' pins s σ H x y v u Q I rx ry z
  · unfold gElse at z
    cases e : g x y with
    | some rv' =>
      rw [e] at z
      cases z
      exact .inl (q F G H sd σ x y v u _ Q S r1 r2 e k)
    | none =>
      rw [e] at z
      exact .inr (q' F G H sd σ x y v u _ Q S r1 r2 z k)
def mElse {α : Type} (m m' : M α) : M α := fun sd => match m sd with
  | .fail => m' sd
  | r => r
theorem se_else {m m' : M RV} (h : SE fx X Wx e m) (h' : SE fx X Wx e m') : SE fx X Wx e (mElse m m') := by
  obtain ⟨t, p, q⟩ := h.ex
  obtain ⟨t', p', q'⟩ := h'.ex
  refine ⟨fun σ H Q => t σ H Q ∨ t' σ H Q, ⟨fun pins s σ H Q I z => ?_⟩, fun F G H sd σ Q S z => ?_⟩
  · rcases z with z | z
    · exact p.run pins s σ H Q I z
    · exact p'.run pins s σ H Q I z
  · unfold mElse at z
    cases k : m sd with
    | fail => rw [k] at z; exact .inr (q' F G H sd σ Q S z)
    | ok a sd' => rw [k] at z; exact .inl (q F G H sd σ Q S (by rw [k]; exact z))
    | exc x sd' => rw [k] at z; exact .inl (q F G H sd σ Q S (by rw [k]; exact z))
end
end Av

/-! equations by constructors for the later words -/
namespace Av
open PySem L2
section
variable {d e : D} {i j : Nat} {sd : List SV} {xs ys : List D} {ma : M RV} {mas : M (List RV)} {x y : Str} {rs : List RV} {r : RV}
def strOf : RV → Option (List RV)
  | .val (.str x) => some (strItems x)
  | .bval (.str x) => some (strItems x)
  | _ => none
@[simp] theorem strOf_val : strOf (.val (.str x)) = some (strItems x) := rfl
@[simp] theorem strOf_bval : strOf (.bval (.str x)) = some (strItems x) := rfl
@[simp] theorem mStrIt_eq : mStrIt ma sd = (ma sd).bind fun r => mBind (mSettle r) fun r => mGet (strOf r) := rfl
@[simp] theorem gLen_str : gLen [.str x] = if x.length ≤ sizeLine then some (.val (.int x.length)) else none := rfl
@[simp] theorem gMin_int {p q : Int} : gMin [.int p, .int q] = some (.val (.int (if q < p then q else p))) := rfl
@[simp] theorem gMax_int {p q : Int} : gMax [.int p, .int q] = some (.val (.int (if q > p then q else p))) := rfl
@[simp] theorem gMulT_eq {k : Int} : gMulT (.tup xs) (.int k) = if D.imms xs && !xs.isEmpty && decide (2 ≤ k) && decide (k ≤ 1000) && decide (xs.length ≤ 1000) then some (.val (.tup (List.replicate k.toNat xs).flatten)) else none := rfl
@[simp] theorem gAdd_str : gAdd (.str x) (.str y) = if x.length + y.length ≤ sizeLine then some (.val (.str (x ++ y))) else none := rfl
@[simp] theorem gSl_str {lo hi : Option Int} : gSl (.str x) lo hi = if x.length ≤ sizeLine then some (.val (.str (cutS x lo hi))) else none := rfl
@[simp] theorem itemsOf_val : itemsOf (.val (.tup xs)) = some (xs.map .val) := rfl
@[simp] theorem gTupT_eq {n : Nat} {gs : List RV → List SV → Option (List SV)} : gTupT n gs r sd = (itemsOf r).bind fun rs => if rs.length = n then gs rs sd else none := rfl
@[simp] theorem gsNil_eq : gsNil [] sd = some sd := rfl
@[simp] theorem gsCons_eq {g : MG} {gs : List RV → List SV → Option (List SV)} : gsCons g gs (r :: rs) sd = (g r sd).bind fun sd => gs rs sd := rfl
@[simp] theorem valItems_tup : valItems (.tup xs) = some (xs.map .val) := rfl
@[simp] theorem valItems_lst : valItems (.lst xs) = some (xs.map .val) := rfl
@[simp] theorem borItems_tup : borItems (.tup xs) = some (xs.map fun d => if d.imm then .val d else .bval d) := rfl
@[simp] theorem borItems_lst : borItems (.lst xs) = some (xs.map fun d => if d.imm then .val d else .bval d) := rfl
@[simp] theorem seqOf_val : seqOf sd (.val d) = valItems d := rfl
@[simp] theorem seqOf_fresh : seqOf sd (.fresh d) = valItems d := rfl
@[simp] theorem seqOf_bval : seqOf sd (.bval d) = borItems d := rfl
def sqS : SV → Option (List RV)
  | .sh d => valItems d
  | .own d => valItems d
  | .io d => valItems d
  | .bor d => borItems d
  | _ => none
@[simp] theorem seqOf_slot : seqOf sd (.slot j) = sqS (sd[j]?.getD .no) := by
  unfold seqOf sqS
  try dsimp only
  try (cases sd[j]?.getD .no <;> rfl)
@[simp] theorem sqS_sh : sqS (.sh d) = valItems d := rfl
@[simp] theorem sqS_own : sqS (.own d) = valItems d := rfl
@[simp] theorem sqS_bor : sqS (.bor d) = borItems d := rfl
@[simp] theorem gSeqT_eq {n : Nat} {gs : List RV → List SV → Option (List SV)} : gSeqT n gs r sd = (seqOf sd r).bind fun rs => if rs.length = n then gs rs sd else none := rfl
/-! objects -/
@[simp] theorem obj?_obj {c : Str} {fs : List (Str × D)} : (D.obj c fs).obj? = some (c, fs) := rfl
@[simp] theorem mFld_eq {fl : List (Str × Str)} {f : Str} : mFld fl f ma sd = (ma sd).bind fun ra => mBind (mRead ra.keep) fun x => mBind (mGet x.obj?) fun p => if fl.contains (p.1, f) then mBind (mGet (dFld p.2 f)) fun d => fun sd => mGet (elemOf sd ra.keep d) sd else mFail := rfl
@[simp] theorem mProp_eq {c : Str} {mf : MF} : mProp c mf ma sd = (ma sd).bind fun r => mBind (mRead r.keep) fun d => mBind (mGet d.obj?) fun p => if p.1 = c then mNoX (mCall [] mf (mPure [r.keep])) else mFail := rfl
def noXR {α : Type} (r : R α) : R α := match r with
  | .exc _ _ => .fail
  | r => r
@[simp] theorem mNoX_eq {α : Type} {m : M α} : mNoX m sd = noXR (m sd) := rfl
@[simp] theorem noXR_ok {α : Type} {a : α} : noXR (R.ok a sd) = .ok a sd := rfl
@[simp] theorem mCMeth_eq {c : Str} {ios : List Nat} {mf : MF} : mCMeth c ios mf mas sd = (mas sd).bind fun rs => mCall ios mf (mPure (.val (.fn c) :: rs)) := rfl
def mkE (f : FR) (sd : List SV) : R RV := match f with
  | .ok (.val .non) [d] => .ok (.fresh d) sd
  | .exc x [_] => .exc x sd
  | _ => .fail
@[simp] theorem mkE_ok : mkE (.ok (.val .non) [d]) sd = .ok (.fresh d) sd := rfl
@[simp] theorem mkE_exc {x : Xn} : mkE (.exc x [d]) sd = .exc x sd := rfl
def mkM (c : Str) (mf : MF) (o : Option (List SV)) (sd : List SV) : R RV := match o with
  | some svs => mkE (mf (.io (.obj c []) :: svs)) sd
  | none => .fail
@[simp] theorem mkM_some {c : Str} {mf : MF} {svs : List SV} : mkM c mf (some svs) sd = mkE (mf (.io (.obj c []) :: svs)) sd := rfl
@[simp] theorem mMake_eq {c : Str} {mf : MF} : mMake c mf mas sd = (mas sd).bind fun rs => fun sd => mkM c mf (passAll sd [] 0 rs) sd := by
  unfold mMake
  rw [mBind_eq]
  congr 1
def mkV (s : SV) (c : Str) (m : R RV) : R RV := match s with
  | .sh (.fn c') => if c' = c then m else .fail
  | _ => .fail
@[simp] theorem mkV_fn {c : Str} {m : R RV} : mkV (.sh (.fn c)) c m = m := by unfold mkV; simp
@[simp] theorem mMakeV_eq {c : Str} {mf : MF} : mMakeV i c mf mas sd = mkV (sd[i]?.getD .no) c (mMake c mf mas sd) := by
  unfold mMakeV mkV
  cases e : sd[i]?.getD .no with
  | sh d => cases d <;> rfl
  | _ => rfl
@[simp] theorem imm_fn : (D.fn x).imm = true := rfl
@[simp] theorem tupItems_val : tupItems (.val (.tup xs)) = some (xs.map .val) := rfl
@[simp] theorem tupItems_bval : tupItems (.bval (.tup xs)) = some (xs.map fun d => if d.imm then .val d else .bval d) := rfl
@[simp] theorem mOwnIt_eq {c f : Str} : mOwnIt c f ma sd = (ma sd).bind fun r => mBind (mSettle r) fun r => fun sd => mGet (ownItems c f sd r.keep) sd := rfl
@[simp] theorem rvd_val : (RV.val d).d? sd = some d := rfl
@[simp] theorem rvd_bval : (RV.bval d).d? sd = some d := rfl
@[simp] theorem ownItems_eq {c f : Str} : ownItems c f sd r = (r.d? sd).bind fun d => d.obj?.bind fun p => if p.1 = c then (dFld p.2 f).bind fun x => (elemOf sd r x).bind tupItems else none := rfl
def strsI (o : Option D) (x : Str) (neg : Bool) : Option RV := match o with
  | some (.tup ys) => (strsOf ys).map fun ks => .val (.bl (neg.xor (ks.any (· == x))))
  | _ => none
@[simp] theorem strsI_tup {neg : Bool} : strsI (some (.tup ys)) x neg = (strsOf ys).map fun ks => .val (.bl (neg.xor (ks.any (· == x)))) := rfl
@[simp] theorem gInOwn_eq {neg : Bool} {c c' f : Str} {fs : List (Str × D)} : gInOwn neg c f (.str x) (.obj c' fs) = if c' = c then strsI (dFld fs f) x neg else none := rfl
theorem strsOf_map {ks : List Str} : strsOf (ks.map .str) = some ks := by
  induction ks with
  | nil => rfl
  | cons k r ih => rw [List.map_cons]; unfold strsOf; rw [ih]; rfl
/-! errors -/
@[simp] theorem mRaise_eq {nm f : Str} : mRaise nm f ma sd = thenR ((ma sd).bind fun r => mBind (mShare r) fun d => mPure d) fun d => fun sd => .exc ⟨nm, [(f, d)]⟩ sd := rfl
def exS (s : SV) (sd : List SV) : R Unit := match s with
  | .exn => .ok () sd
  | _ => .fail
@[simp] theorem mExn_eq : mExn i sd = exS (sd[i]?.getD .no) sd := rfl
@[simp] theorem exS_exn : exS .exn sd = .ok () sd := rfl
@[simp] theorem mXf_eq {fl : List (Str × Str)} {f : Str} {xn : Xn} : mXf fl i xn f sd = (mExn i sd).bind fun _ => if fl.contains (xn.c, f) then mBind (mGet (xn.fs.lookup f)) fun d => mPure (.val d) else mFail := rfl
@[simp] theorem mXis_eq {tab : List ((Str × Str) × Bool)} {xn : Xn} : mXis tab i xn y sd = (mExn i sd).bind fun _ => if xn.fs.isEmpty then mFail else mBind (mGet (tab.lookup (xn.c, y))) fun b => mPure (.val (.bl b)) := rfl
def cxE (f : FR) (sd : List SV) : R RV := match f with
  | .ok r [] => .ok r sd
  | _ => .fail
@[simp] theorem cxE_ok : cxE (.ok r []) sd = .ok r sd := rfl
@[simp] theorem mCallX_eq {xn : Xn} {mf : Xn → MF} : mCallX i xn mf sd = (mExn i sd).bind fun _ => fun sd => cxE (mf xn [.exn]) sd := rfl
def tryR (tab : List ((Str × Str) × Bool)) (y : Str) (i : Nat) (r : RS) (ms : Xn → MS) : RS := match r with
  | .exc x sd1 => match tab.lookup (x.c, y) with
    | some true => if canPut sd1[i]? && !sd1.any SV.isExn then offSuite i (ms x (sd1.set i .exn)) else .fail
    | some false => .exc x sd1
    | none => .fail
  | r => r
@[simp] theorem mTry_eq {tab : List ((Str × Str) × Bool)} {mb : MS} {ms : Xn → MS} : mTry tab y i mb ms sd = tryR tab y i (mb sd) ms := rfl
@[simp] theorem tryR_ret {tab : List ((Str × Str) × Bool)} {ms : Xn → MS} : tryR tab y i (.ret r sd) ms = .ret r sd := rfl
@[simp] theorem tryR_nx {tab : List ((Str × Str) × Bool)} {ms : Xn → MS} : tryR tab y i (.nx sd) ms = .nx sd := rfl
theorem tryR_exc {tab : List ((Str × Str) × Bool)} {ms : Xn → MS} {xn : Xn} (h : tab.lookup (xn.c, y) = some true) : tryR tab y i (.exc xn sd) ms = if canPut sd[i]? && !sd.any SV.isExn then offSuite i (ms xn (sd.set i .exn)) else .fail := by
  show (match tab.lookup (xn.c, y) with
    | some true => if canPut sd[i]? && !sd.any SV.isExn then offSuite i (ms xn (sd.set i .exn)) else .fail
    | some false => .exc xn sd
    | none => .fail) = _
  rw [h]
@[simp] theorem isExn_sh : (SV.sh d).isExn = false := rfl
@[simp] theorem isExn_own : (SV.own d).isExn = false := rfl
@[simp] theorem isExn_bor : (SV.bor d).isExn = false := rfl
@[simp] theorem isExn_io : (SV.io d).isExn = false := rfl
@[simp] theorem isExn_no : SV.no.isExn = false := rfl
@[simp] theorem off_val : offSuite i (.ret (.val d) sd) = .ret (.val d) (sd.set i .no) := rfl
@[simp] theorem off_fresh : offSuite i (.ret (.fresh d) sd) = .ret (.fresh d) (sd.set i .no) := rfl
@[simp] theorem off_nx : offSuite i (.nx sd) = .nx (sd.set i .no) := rfl
@[simp] theorem finF_exc {ios : List Nat} {xn : Xn} : finF ios (.exc xn sd) = match outsOf sd ios with
    | some os => .exc xn os
    | none => .fail := rfl
@[simp] theorem loopR_exc {k : MS} {xn : Xn} : loopR (.exc xn sd) k = .exc xn sd := rfl
@[simp] theorem mSetF_eq {fl : List (Str × Str)} {f : Str} : mSetF fl f i ma sd = thenR ((ma sd).bind fun r => mBind (mShare r) fun d => mBind (mOwn i) fun x => mBind (mGet x.obj?) fun p => if fl.contains (p.1, f) && decide (p.2.length < 1000) then mPutOwn i (.obj p.1 (dPutF f d p.2)) else mFail) fun _ => mSkip := rfl
/-- a comprehension, item by item -/
theorem comp_map {vs : List Nat} {g : MG} {mt : M Bool} {me : M RV} {B : List SV} (f : RV → D) : ∀ (items : List RV) (acc : List D) (sd : List SV), wipeS sd vs = B → acc.length + items.length ≤ sizeLine →
    (∀ r ∈ items, ∃ s1 s2 s3, g r B = some s1 ∧ mt s1 = .ok true s2 ∧ (me s2).bind mShare = .ok (f r) s3 ∧ wipeS s3 vs = B) → compGo vs g mt me items acc sd = .ok (.fresh (.lst (acc ++ items.map f))) B
  | [], acc, sd, h, _, _ => by
      show R.ok (RV.fresh (D.lst acc)) (wipeS sd vs) = _
      rw [h, List.map_nil, List.append_nil]
  | r :: rs, acc, sd, h, hl, hs => by
    obtain ⟨s1, s2, s3, e1, e2, e3, e4⟩ := hs r List.mem_cons_self
    have ex : compGo vs g mt me (r :: rs) acc sd = match g r (wipeS sd vs) with
      | none => .fail
      | some sd1 => match mt sd1 with
        | .ok true sd2 => match (mBind me mShare) sd2 with
          | .ok d sd3 => if acc.length < sizeLine then compGo vs g mt me rs (acc ++ [d]) sd3 else .fail
          | _ => .fail
        | .ok false sd2 => compGo vs g mt me rs acc sd2
        | _ => .fail := rfl
    rw [List.length_cons] at hl
    have e3' : (mBind me mShare) s2 = .ok (f r) s3 := e3
    rw [ex, h, e1]
    dsimp only
    rw [e2]
    dsimp only
    rw [e3']
    dsimp only
    rw [if_pos (by omega), comp_map f rs (acc ++ [f r]) s3 e4 (by rw [List.length_append, List.length_singleton]; omega) (fun r hr => hs r (List.mem_cons_of_mem _ hr)), List.append_assoc]
    rfl
/-- a comprehension that takes nothing -/
theorem comp_none {vs : List Nat} {g : MG} {mt : M Bool} {me : M RV} {B : List SV} : ∀ (items : List RV) (acc : List D) (sd : List SV), wipeS sd vs = B →
    (∀ r ∈ items, ∃ s1 s2, g r B = some s1 ∧ mt s1 = .ok false s2 ∧ wipeS s2 vs = B) → compGo vs g mt me items acc sd = .ok (.fresh (.lst acc)) B
  | [], acc, sd, h, _ => by
      show R.ok (RV.fresh (D.lst acc)) (wipeS sd vs) = _
      rw [h]
  | r :: rs, acc, sd, h, hs => by
    obtain ⟨s1, s2, e1, e2, e3⟩ := hs r List.mem_cons_self
    have ex : compGo vs g mt me (r :: rs) acc sd = match g r (wipeS sd vs) with
      | none => .fail
      | some sd1 => match mt sd1 with
        | .ok true sd2 => match (mBind me mShare) sd2 with
          | .ok d sd3 => if acc.length < sizeLine then compGo vs g mt me rs (acc ++ [d]) sd3 else .fail
          | _ => .fail
        | .ok false sd2 => compGo vs g mt me rs acc sd2
        | _ => .fail := rfl
    rw [ex, h, e1]
    dsimp only
    rw [e2]
    exact comp_none rs acc s2 e3 fun r hr => hs r (List.mem_cons_of_mem _ hr)
@[simp] theorem mFrz_eq : mFrz ma sd = (ma sd).bind fun r => mBind (mShare r) fun d => mPure (.val d) := rfl
@[simp] theorem imm_obj {c : Str} {fs : List (Str × D)} : (D.obj c fs).imm = false := rfl
end
end Av

/-! equations by constructors: dicts, methods, texts -/
namespace Av
open PySem L2
section
variable {d e : D} {i j : Nat} {sd : List SV} {xs ys : List D} {ma mb mo : M RV} {mas : M (List RV)} {x y : Str} {rs : List RV} {r : RV}
@[simp] theorem dic?_dic {t : Bool} {kvs : List (D × D)} : (D.dic t kvs).dic? = some (t, kvs) := rfl
@[simp] theorem keyOk_str : keyOk false (.str x) = true := rfl
@[simp] theorem mDGet_eq : mDGet ma mb sd = (ma sd).bind fun ra => mBind mb fun rb => mBind (mRead ra.keep) fun x => mBind (mRead rb.keep) fun k => mBind (mGet x.dic?) fun p => if keyOk p.1 k then mBind (mGet (dVal p.2 k)) fun d => fun sd => mGet (elemOf sd ra.keep d) sd else mFail := rfl
@[simp] theorem gInD_str {neg : Bool} {kvs : List (D × D)} : gInD neg (.str x) (.dic false kvs) = some (.val (.bl (neg.xor (dVal kvs (.str x)).isSome))) := rfl
@[simp] theorem mMeth_eq {c m : Str} {ios : List Nat} {mf : MF} : mMeth c m ios mf mo mas sd = (mo sd).bind fun ro => mBind (mRead ro.keep) fun d => mBind (mGet d.obj?) fun p => if p.1 = c ∧ (dFld p.2 m).isNone = true then mBind mas fun rs => mCall ios mf (mPure (ro.keep :: rs)) else mFail := rfl
@[simp] theorem str?_str : (D.str x).str? = some x := rfl
@[simp] theorem mM0_eq {g : Str → Option RV} : mM0 g ma sd = (ma sd).bind fun ra => mBind (mRead ra.keep) fun x => mBind (mGet x.str?) fun z => mGet (g z) := rfl
@[simp] theorem mM1_eq {g : Str → D → Option RV} : mM1 g ma mb sd = (ma sd).bind fun ra => mBind (mRead ra.keep) fun x => mBind (mGet x.str?) fun z => mBind mb fun rb => mBind (mRead rb.keep) fun y => mGet (g z y) := rfl
@[simp] theorem gUpper_eq : gUpper x = if x.length ≤ 5592405 then some (.val (.str (Txt.upper x))) else none := rfl
@[simp] theorem mSortSetA_eq : mSortSetA ma sd = (ma sd).bind fun ra => mBind (mRead ra.keep) fun x => mGet (gSortSetA x) := rfl
theorem intsOf_strs : ∀ {ks : List Str}, intsOf (ks.map .str) = if ks = [] then some [] else none
  | [] => rfl
  | k :: ks => by simp [intsOf]
theorem sortSet_tup {ks : List Str} (h : ks.length + 1 < 4096) : gSortSetA (.tup (ks.map .str)) = some (.fresh (.lst ((usortS ks).map .str))) := by
  unfold gSortSetA gSortSet
  dsimp only
  rw [intsOf_strs]
  by_cases h0 : ks = []
  · subst h0; rfl
  · rw [if_neg h0]
    show gSortSetS _ = _
    unfold gSortSetS
    dsimp only
    rw [strsOf_map, Option.bind_some, if_pos h]
theorem usortS_mem {ks : List Str} {x : Str} : x ∈ usortS ks ↔ x ∈ ks := by
  unfold usortS
  rw [isort_mem]
  unfold accM
  suffices h : ∀ (ks ms : List Str), x ∈ ks.foldl addM ms ↔ x ∈ ms ∨ x ∈ ks by simpa using h ks []
  intro ks
  induction ks with
  | nil => intro ms; simp
  | cons k ks ih =>
    intro ms
    rw [List.foldl_cons, ih]
    unfold addM
    split
    · rename_i hk
      simp only [List.mem_cons]
      constructor
      · rintro (h | h)
        · exact .inl h
        · exact .inr (.inr h)
      · rintro (h | h | h)
        · exact .inl h
        · exact .inl (h ▸ hk)
        · exact .inr h
    · simp only [List.mem_cons]
      constructor
      · rintro ((h | h) | h)
        · exact .inr (.inl h)
        · exact .inl h
        · exact .inr (.inr h)
      · rintro (h | h | h)
        · exact .inl (.inr h)
        · exact .inl (.inl h)
        · exact .inr h
theorem usortS_sorted {ks : List Str} : (usortS ks).Pairwise (fun a b => sle a b = true) := isort_pairwise sle_total
end
end Av
namespace Av
open PySem L2
/-- a comprehension with a test, item by item -/
theorem comp_fil {vs : List Nat} {g : MG} {mt : M Bool} {me : M RV} {B : List SV} (p : RV → Bool) (f : RV → D) : ∀ (items : List RV) (acc : List D) (sd : List SV), wipeS sd vs = B → acc.length + items.length ≤ sizeLine →
    (∀ r ∈ items, ∃ s1 s2, g r B = some s1 ∧ mt s1 = .ok (p r) s2 ∧ (p r = false → wipeS s2 vs = B) ∧ (p r = true → ∃ s3, (me s2).bind mShare = .ok (f r) s3 ∧ wipeS s3 vs = B)) →
    compGo vs g mt me items acc sd = .ok (.fresh (.lst (acc ++ (items.filter p).map f))) B
  | [], acc, sd, h, _, _ => by
      show R.ok (RV.fresh (D.lst acc)) (wipeS sd vs) = _
      rw [h]; simp
  | r :: rs, acc, sd, h, hl, hs => by
    obtain ⟨s1, s2, e1, e2, e3, e4⟩ := hs r List.mem_cons_self
    have ex : ∀ acc sd, compGo vs g mt me (r :: rs) acc sd = match g r (wipeS sd vs) with
      | none => .fail
      | some sd1 => match mt sd1 with
        | .ok true sd2 => match (mBind me mShare) sd2 with
          | .ok d sd3 => if acc.length < sizeLine then compGo vs g mt me rs (acc ++ [d]) sd3 else .fail
          | _ => .fail
        | .ok false sd2 => compGo vs g mt me rs acc sd2
        | _ => .fail := fun _ _ => rfl
    rw [List.length_cons] at hl
    rw [ex, h, e1]
    dsimp only
    rw [e2]
    cases hp : p r with
    | false =>
      rw [List.filter_cons_of_neg (by simp [hp])]
      exact comp_fil p f rs acc s2 (e3 hp) (by omega) fun r hr => hs r (List.mem_cons_of_mem _ hr)
    | true =>
      obtain ⟨s3, e5, e7⟩ := e4 hp
      dsimp only
      have e5' : (mBind me mShare) s2 = .ok (f r) s3 := e5
      rw [e5']
      dsimp only
      rw [if_pos (by omega), comp_fil p f rs (acc ++ [f r]) s3 e7 (by rw [List.length_append, List.length_singleton]; omega) fun r hr => hs r (List.mem_cons_of_mem _ hr), List.filter_cons_of_pos hp, List.append_assoc]
      rfl
end Av

/-! mirrors: what each def computes, over data -/
namespace G
open PySem Av
def exTab : List ((Str × Str) × Bool) := (("BadMatrix", "AnytruthsError"), true) :: (("BadMatrix", "BadClaim"), false) :: (("BadMatrix", "BadFormula"), false) :: (("BadMatrix", "BadMatrix"), true) :: (("BadMatrix", "BadText"), false) :: (("BadMatrix", "NoConnective"), false) :: (("BadMatrix", "NoStep"), false) :: (("BadMatrix", "NotPlain"), false) :: (("BadMatrix", "TooMany"), false) :: (("BadMatrix", "Unlike"), false) :: (("BadMatrix", "Unseparated"), false) :: (("BadMatrix", "ValueError"), true) :: (("NoConnective", "AnytruthsError"), true) :: (("NoConnective", "BadClaim"), false) :: (("NoConnective", "BadFormula"), false) :: (("NoConnective", "BadMatrix"), false) :: (("NoConnective", "BadText"), false) :: (("NoConnective", "NoConnective"), true) :: (("NoConnective", "NoStep"), false) :: (("NoConnective", "NotPlain"), false) :: (("NoConnective", "TooMany"), false) :: (("NoConnective", "Unlike"), false) :: (("NoConnective", "Unseparated"), false) :: (("NoConnective", "ValueError"), true) :: (("NotPlain", "AnytruthsError"), true) :: (("NotPlain", "BadClaim"), false) :: (("NotPlain", "BadFormula"), false) :: (("NotPlain", "BadMatrix"), false) :: (("NotPlain", "BadText"), false) :: (("NotPlain", "NoConnective"), false) :: (("NotPlain", "NoStep"), false) :: (("NotPlain", "NotPlain"), true) :: (("NotPlain", "TooMany"), false) :: (("NotPlain", "Unlike"), false) :: (("NotPlain", "Unseparated"), false) :: (("NotPlain", "ValueError"), true) :: (("Unlike", "AnytruthsError"), true) :: (("Unlike", "BadClaim"), false) :: (("Unlike", "BadFormula"), false) :: (("Unlike", "BadMatrix"), false) :: (("Unlike", "BadText"), false) :: (("Unlike", "NoConnective"), false) :: (("Unlike", "NoStep"), false) :: (("Unlike", "NotPlain"), false) :: (("Unlike", "TooMany"), false) :: (("Unlike", "Unlike"), true) :: (("Unlike", "Unseparated"), false) :: (("Unlike", "ValueError"), true) :: []
def exFl : List (Str × Str) := [("NoConnective", "name"), ("NotPlain", "name"), ("Unlike", "name")]
def clFl : List (Str × Str) := [("Matrix", "size"), ("Matrix", "designated"), ("Matrix", "tables"), ("Matrix", "names"), ("Matrix", "loose"), ("Matrix", "_places"), ("Matrix", "_entries")]
/-- slots: 0 cell, 1 rest -/
def b__law_stream : MS := mSeq (mAsg (putSlot 1) (mCallB gAbs (mCons (mCallB gInt (mCons (mVar 0) (mNil))) (mNil)))) (mSeq (mIfS (mCmpT gLt (mVar 1) (mOp gPow (mC (.int 10)) (mC (.int 18)))) (mAsg (putSlot 1) (mC (.int 0))) (mSkip)) (mRet (mLst (mCons (mVar 1) (mCons (mCallB gInt (mCons (mVar 0) (mNil))) (mCons (mC (.int 0)) (mNil)))))))
def m__law_stream : MF := mDef 1 2 [] b__law_stream
/-- slots: 0 size, 1 signs, 2 value, 3 pair -/
def b__law_signs_1 : MS := mAsg (putSlot 1) (mOp gAdd (mVar 1) (mComp [3] (mSeqIt (mVar 1)) (putSlot 3) (mPure true) (mTup (mCons (mOp gAdd (mIx (mVar 3) (mC (.int 0))) (mIx (mC (.str "0123")) (mVar 2))) (mCons (mOp gAdd (mIx (mVar 3) (mC (.int 1))) (mTup (mCons (mVar 2) (mNil)))) (mNil))))))
def b__law_signs : MS := mSeq (mAsg (putSlot 1) (mLst (mCons (mTup (mCons (mC (.str "")) (mCons (mTup (mNil)) (mNil)))) (mNil)))) (mSeq (mFor (mRange gRange1 (mCons (mVar 0) (mNil))) (putSlot 2) (b__law_signs_1)) (mRet (mSl (mVar 1) (mPart (mC (.int 1))) (mNoPart))))
def m__law_signs : MF := mDef 1 4 [] b__law_signs
/-- slots: 0 stream, 1 limit, 2 digit, 3 one, 4 two -/
def b__law_next : MS := mSeq (mSetIx D.isLst gSetL 0 (mC (.int 2)) (mOp gAdd (mIx (mVar 0) (mC (.int 2))) (mC (.int 1)))) (mSeq (mIfS (mCmpT gGt (mIx (mVar 0) (mC (.int 0))) (mC (.int 0))) (mSeq (mAsg (putSlot 2) (mOp gMod (mCallB gInt (mCons (mIx (mVar 0) (mC (.int 0))) (mNil))) (mVar 1))) (mSeq (mSetIx D.isLst gSetL 0 (mC (.int 0)) (mOp gDiv (mCallB gInt (mCons (mIx (mVar 0) (mC (.int 0))) (mNil))) (mVar 1))) (mRet (mVar 2)))) (mSkip)) (mSeq (mAsg (putSlot 3) (mOp gMod (mCallB gInt (mCons (mOp gMul (mCallB gInt (mCons (mOp gAdd (mOp gMod (mCallB gInt (mCons (mIx (mVar 0) (mC (.int 1))) (mNil))) (mC (.int 2147483647))) (mOp gMul (mC (.int 7919)) (mIx (mVar 0) (mC (.int 2))))) (mNil))) (mC (.int 48271))) (mNil))) (mC (.int 2147483647)))) (mSeq (mAsg (putSlot 4) (mOp gMod (mCallB gInt (mCons (mOp gAdd (mOp gMul (mVar 3) (mVar 3)) (mOp gMul (mC (.int 69621)) (mIx (mVar 0) (mC (.int 2))))) (mNil))) (mC (.int 1000003)))) (mRet (mOp gMod (mCallB gInt (mCons (mVar 4) (mNil))) (mVar 1))))))
def m__law_next : MF := mDef 2 5 [0] b__law_next
/-- slots: 0 stream, 1 name, 2 k -/
def b__law_name_1 : MS := mAsg (putSlot 1) (mOp gAdd (mVar 1) (mIx (mC (.str "abcdefghijklmnopqrstuvwxyz")) (mCall [0] m__law_next (mCons (mVar 0) (mCons (mC (.int 26)) (mNil))))))
def b__law_name : MS := mSeq (mAsg (putSlot 1) (mC (.str ""))) (mSeq (mFor (mRange gRange1 (mCons (mOp gAdd (mC (.int 2)) (mCall [0] m__law_next (mCons (mVar 0) (mCons (mC (.int 7)) (mNil))))) (mNil))) (putSlot 2) (b__law_name_1)) (mRet (mVar 1)))
def m__law_name : MF := mDef 1 3 [0] b__law_name
/-- slots: 0 size, 1 places, 2 count, 3 k -/
def b__law_count_1 : MS := mAsg (putSlot 2) (mOp gMul (mVar 2) (mVar 0))
def b__law_count : MS := mSeq (mAsg (putSlot 2) (mC (.int 1))) (mSeq (mFor (mRange gRange1 (mCons (mVar 1) (mNil))) (putSlot 3) (b__law_count_1)) (mRet (mVar 2)))
def m__law_count : MF := mDef 2 4 [] b__law_count
/-- slots: 0 stream, 1 size, 2 plain, 3 signs, 4 tables, 5 k, 6 name, 7 places, 8 entries, 9 j, 10 table -/
def b__law_tables_1 : MS := mIfS (mTruth (mVar 2)) (mExpr (mMut D.isLst gAppend 8 (mCons (mTup (mCons (mCall [0] m__law_next (mCons (mVar 0) (mCons (mVar 1) (mNil)))) (mNil))) (mNil)))) (mExpr (mMut D.isLst gAppend 8 (mCons (mIx (mIx (mVar 3) (mCall [0] m__law_next (mCons (mVar 0) (mCons (mCallB gLen (mCons (mVar 3) (mNil))) (mNil))))) (mC (.int 1))) (mNil))))
def b__law_tables_2 : MS := mSeq (mAsg (putSlot 6) (mCall [0] m__law_name (mCons (mVar 0) (mNil)))) (mSeq (mAsg (putSlot 7) (mIx (mLst (mCons (mC (.int 2)) (mCons (mC (.int 1)) (mCons (mC (.int 0)) (mCons (mC (.int 2)) (mCons (mC (.int 3)) (mCons (mC (.int 2)) (mNil)))))))) (mCall [0] m__law_next (mCons (mVar 0) (mCons (mC (.int 6)) (mNil)))))) (mSeq (mIfS (mCmpT gGt (mVar 1) (mC (.int 2))) (mAsg (putSlot 7) (mCallB gMin (mCons (mVar 7) (mCons (mC (.int 2)) (mNil))))) (mSkip)) (mSeq (mAsg (putSlot 8) (mLst (mNil))) (mSeq (mFor (mRange gRange1 (mCons (mCall [] m__law_count (mCons (mVar 1) (mCons (mVar 7) (mNil)))) (mNil))) (putSlot 9) (b__law_tables_1)) (mIfS (mCmpT (gIn true) (mVar 6) (mCompA 4 [10] (putSlot 10) (mPure true) (mIx (mVar 10) (mC (.int 0))))) (mExpr (mMut D.isLst gAppend 4 (mCons (mTup (mCons (mVar 6) (mCons (mVar 7) (mCons (mCallB gTuple (mCons (mVar 8) (mNil))) (mNil))))) (mNil)))) (mSkip))))))
def b__law_tables : MS := mSeq (mAsg (putSlot 3) (mCall [] m__law_signs (mCons (mVar 1) (mNil)))) (mSeq (mAsg (putSlot 4) (mLst (mNil))) (mSeq (mFor (mRange gRange1 (mCons (mCall [0] m__law_next (mCons (mVar 0) (mCons (mC (.int 7)) (mNil)))) (mNil))) (putSlot 5) (b__law_tables_2)) (mRet (mVar 4))))
def m__law_tables : MF := mDef 3 11 [0] b__law_tables
/-- slots: 0 size, 1 datum -/
def b_is_value : MS := mRet (mAndV (mIsa "int" (mVar 1)) (mAndV (mNotV (mIsa "bool" (mVar 1))) (mChain gLe gLt (mC (.int 0)) (mVar 1) (mVar 0))))
def m_is_value : MF := mDef 2 2 [] b_is_value
/-- slots: 0 size, 1 datum, 2 least, 3 value -/
def b_is_sign_1 : MS := mSeq (mIfS (mOrT (mNotT (mTruth (mCall [] m_is_value (mCons (mVar 0) (mCons (mVar 3) (mNil)))))) (mCmpT gLt (mVar 3) (mVar 2))) (mRet (mC (.bl false))) (mSkip)) (mAsg (putSlot 2) (mOp gAdd (mVar 3) (mC (.int 1))))
def b_is_sign : MS := mSeq (mIfS (mNotT (mTruth (mIsa "tuple" (mVar 1)))) (mRet (mC (.bl false))) (mSkip)) (mSeq (mAsg (putSlot 2) (mC (.int 0))) (mSeq (mFor (mSeqIt (mVar 1)) (putSlot 3) (b_is_sign_1)) (mRet (mC (.bl true)))))
def m_is_sign : MF := mDef 2 4 [] b_is_sign
/-- slots: 0 text, 1 char -/
def b_is_name_1 : MS := mIfS (mNotT (mB (mChain gLe gLe (mC (.str "a")) (mVar 1) (mC (.str "z"))))) (mRet (mC (.bl false))) (mSkip)
def b_is_name : MS := mSeq (mIfS (mNotT (mB (mChain gLe gLe (mC (.int 2)) (mCallB gLen (mCons (mVar 0) (mNil))) (mC (.int 8))))) (mRet (mC (.bl false))) (mSkip)) (mSeq (mFor (mStrIt (mVar 0)) (putSlot 1) (b_is_name_1)) (mRet (mC (.bl true))))
def m_is_name : MF := mDef 1 2 [] b_is_name
/-- slots: 0 size, 1 places, 2 count, 3 _ -/
def b_row_count_1 : MS := mAsg (putSlot 2) (mOp gMul (mVar 2) (mVar 0))
def b_row_count : MS := mSeq (mAsg (putSlot 2) (mC (.int 1))) (mSeq (mFor (mRange gRange1 (mCons (mVar 1) (mNil))) (putSlot 3) (b_row_count_1)) (mRet (mVar 2)))
def m_row_count : MF := mDef 2 4 [] b_row_count
/-- slots: 0 size, 1 places, 2 entries, 3 count, 4 entry -/
def b_is_table_1 : MS := mIfS (mOrT (mCmpT gEq (mCallB gLen (mCons (mVar 4) (mNil))) (mC (.int 0))) (mNotT (mTruth (mCall [] m_is_sign (mCons (mVar 0) (mCons (mVar 4) (mNil))))))) (mRet (mC (.bl false))) (mSkip)
def b_is_table : MS := mSeq (mIfS (mNotT (mB (mChain gLe gLe (mC (.int 0)) (mVar 1) (mC (.int 3))))) (mRet (mC (.bl false))) (mSkip)) (mSeq (mAsg (putSlot 3) (mCall [] m_row_count (mCons (mVar 0) (mCons (mVar 1) (mNil))))) (mSeq (mIfS (mOrT (mCmpT gGt (mVar 3) (mC (.int 16))) (mCmpT gNe (mCallB gLen (mCons (mVar 2) (mNil))) (mVar 3))) (mRet (mC (.bl false))) (mSkip)) (mSeq (mFor (mSeqIt (mVar 2)) (putSlot 4) (b_is_table_1)) (mRet (mC (.bl true))))))
def m_is_table : MF := mDef 3 5 [] b_is_table
/-- slots: 0 size, 1 designated, 2 tables, 3 names, 4 name, 5 places, 6 entries -/
def b_matrix_fault_1 : MS := mSeq (mIfS (mOrT (mCmpT gEq (mCallB gLen (mCons (mVar 3) (mNil))) (mC (.int 6))) (mCmpT (gIn false) (mVar 4) (mVar 3))) (mRet (mOp gAdd (mC (.int 2)) (mCallB gLen (mCons (mVar 3) (mNil))))) (mSkip)) (mSeq (mIfS (mOrT (mNotT (mTruth (mCall [] m_is_name (mCons (mVar 4) (mNil))))) (mNotT (mTruth (mCall [] m_is_table (mCons (mVar 0) (mCons (mVar 5) (mCons (mVar 6) (mNil)))))))) (mRet (mOp gAdd (mC (.int 2)) (mCallB gLen (mCons (mVar 3) (mNil))))) (mSkip)) (mExpr (mMut D.isLst gAppend 3 (mCons (mVar 4) (mNil)))))
def b_matrix_fault : MS := mSeq (mIfS (mNotT (mB (mChain gLe gLe (mC (.int 2)) (mVar 0) (mC (.int 4))))) (mRet (mC (.int 0))) (mSkip)) (mSeq (mIfS (mOrT (mNotT (mTruth (mCall [] m_is_sign (mCons (mVar 0) (mCons (mVar 1) (mNil)))))) (mNotT (mB (mChain gLt gLt (mC (.int 0)) (mCallB gLen (mCons (mVar 1) (mNil))) (mVar 0))))) (mRet (mC (.int 1))) (mSkip)) (mSeq (mAsg (putSlot 3) (mLst (mNil))) (mSeq (mFor (mSeqIt (mVar 2)) (gTupT 3 (gsCons (putSlot 4) (gsCons (putSlot 5) (gsCons (putSlot 6) (gsNil))))) (b_matrix_fault_1)) (mRet (mC .non)))))
def m_matrix_fault : MF := mDef 3 7 [] b_matrix_fault
/-- slots: 0 tables, 1 name, 2 _, 3 entries, 4 entry -/
def b_loose_table_1 : MS := mIfS (mCmpT gGt (mCallB gLen (mCons (mVar 4) (mNil))) (mC (.int 1))) (mRet (mVar 1)) (mSkip)
def b_loose_table_2 : MS := mFor (mSeqIt (mVar 3)) (putSlot 4) (b_loose_table_1)
def b_loose_table : MS := mSeq (mFor (mSeqIt (mVar 0)) (gTupT 3 (gsCons (putSlot 1) (gsCons (putSlot 2) (gsCons (putSlot 3) (gsNil))))) (b_loose_table_2)) (mRet (mC .non))
def m_loose_table : MF := mDef 1 5 [] b_loose_table
/-- slots: 0 self, 1 size, 2 designated, 3 tables, 4 place, 5 name, 6 places, 7 entries, 8 table -/
def b_Matrix___init__ : MS := mSeq (mAsg (putSlot 4) (mCall [] m_matrix_fault (mCons (mVar 1) (mCons (mVar 2) (mCons (mVar 3) (mNil)))))) (mSeq (mIfS (mB (mNotN (mVar 4))) (mRaise "BadMatrix" "place" (mVar 4)) (mSkip)) (mSeq (mSetF clFl "size" 0 (mVar 1)) (mSeq (mSetF clFl "designated" 0 (mVar 2)) (mSeq (mSetF clFl "tables" 0 (mVar 3)) (mSeq (mSetF clFl "names" 0 (mCallB gTuple (mCons (mComp [8] (mSeqIt (mVar 3)) (putSlot 8) (mPure true) (mIx (mVar 8) (mC (.int 0)))) (mNil)))) (mSeq (mSetF clFl "loose" 0 (mCall [] m_loose_table (mCons (mVar 3) (mNil)))) (mFill clFl "_places" "_entries" 0 3 [5, 6, 7])))))))
def m_Matrix___init__ : MF := mDef 4 9 [0] b_Matrix___init__
/-- slots: 0 names, 1 near, 2 name -/
def b__law_near_names_1 : MS := mAsg (putSlot 1) (mOp gAdd (mVar 1) (mLst (mCons (mVar 2) (mCons (mOp gAdd (mVar 2) (mC (.str "a"))) (mCons (mSl (mVar 2) (mNoPart) (mPart (mUn gNeg (mC (.int 1))))) (mCons (mM0 gUpper (mVar 2)) (mCons (mOp gAdd (mVar 2) (mC (.str " "))) (mCons (mSl (mVar 2) (mNoPart) (mPart (mC (.int 1)))) (mCons (mSl (mVar 2) (mPart (mC (.int 1))) (mNoPart)) (mNil))))))))))
def b__law_near_names : MS := mSeq (mAsg (putSlot 1) (mLst (mCons (mC (.str "")) (mCons (mC (.str "a")) (mCons (mC (.str "z")) (mCons (mC (.str "A")) (mCons (mC (.str "1")) (mCons (mC (.str "{")) (mCons (mC (.str "`")) (mCons (mC (.str " ")) (mCons (mC (.str "ab")) (mNil)))))))))))) (mSeq (mFor (mSeqIt (mVar 0)) (putSlot 2) (b__law_near_names_1)) (mRet (mVar 1)))
def m__law_near_names : MF := mDef 1 3 [] b__law_near_names
/-- slots: 0 actual, 1 expected, 2 k -/
def b__law_exact_1 (rec : MF) : MS := mIfS (mNotT (mTruth (mCall [] rec (mCons (mIx (mVar 0) (mVar 2)) (mCons (mIx (mVar 1) (mVar 2)) (mNil)))))) (mRet (mC (.bl false))) (mSkip)
def b__law_exact (rec : MF) : MS := mSeq (mIfS (mTruth (mIsa "tuple" (mVar 1))) (mSeq (mIfS (mOrT (mNotT (mTruth (mIsa "tuple" (mVar 0)))) (mCmpT gNe (mCallB gLen (mCons (mVar 0) (mNil))) (mCallB gLen (mCons (mVar 1) (mNil))))) (mRet (mC (.bl false))) (mSkip)) (mSeq (mFor (mRange gRange1 (mCons (mCallB gLen (mCons (mVar 1) (mNil))) (mNil))) (putSlot 2) (b__law_exact_1 rec)) (mRet (mC (.bl true))))) (mSkip)) (mSeq (mIfS (mB (mIsN (mVar 1))) (mRet (mIsN (mVar 0))) (mSkip)) (mSeq (mIfS (mTruth (mIsa "bool" (mVar 1))) (mRet (mAndV (mIsa "bool" (mVar 0)) (mOp gEq (mVar 0) (mVar 1)))) (mSkip)) (mSeq (mIfS (mTruth (mIsa "int" (mVar 1))) (mRet (mAndV (mIsa "int" (mVar 0)) (mAndV (mNotV (mIsa "bool" (mVar 0))) (mOp gEq (mVar 0) (mVar 1))))) (mSkip)) (mRet (mAndV (mIsa "str" (mVar 0)) (mOp gEq (mVar 0) (mVar 1)))))))
def r__law_exact : Nat → MF
  | 0 => fun _ => .fail
  | n + 1 => mDef 2 3 [] (b__law_exact (r__law_exact n))
def m__law_exact : MF := r__law_exact 8
/-- slots: 0 self, 1 name -/
def b_Matrix_places : MS := mSeq (mIfS (mCmpT (gInD true) (mVar 1) (mFld clFl "_places" (mVar 0))) (mRaise "NoConnective" "name" (mVar 1)) (mSkip)) (mRet (mDGet (mFld clFl "_places" (mVar 0)) (mVar 1)))
def m_Matrix_places : MF := mDef 2 2 [] b_Matrix_places
/-- slots: 0 one, 1 other, 2 name -/
def b_need_one_kind_1 : MS := mSeq (mIfS (mOrT (mCmpT (gIn true) (mVar 2) (mFld clFl "names" (mVar 0))) (mCmpT (gIn true) (mVar 2) (mFld clFl "names" (mVar 1)))) (mRaise "Unlike" "name" (mVar 2)) (mSkip)) (mIfS (mCmpT gNe (mMeth "Matrix" "places" [] m_Matrix_places (mVar 0) (mCons (mVar 2) (mNil))) (mMeth "Matrix" "places" [] m_Matrix_places (mVar 1) (mCons (mVar 2) (mNil)))) (mRaise "Unlike" "name" (mVar 2)) (mSkip))
def b_need_one_kind : MS := mFor (mSeqIt (mSortSetA (mOp gAdd (mFld clFl "names" (mVar 0)) (mFld clFl "names" (mVar 1))))) (putSlot 2) (b_need_one_kind_1)
def m_need_one_kind : MF := mDef 2 3 [] b_need_one_kind
/-- slots: 0 e, 1 kinds -/
def b__law_kinds (x : Xn) : MS := mSeq (mAsg (putSlot 1) (mLst (mNil))) (mSeq (mIfS (mTruth (mXis exTab 0 x "BadMatrix")) (mExpr (mMut D.isLst gAppend 1 (mCons (mC (.str "matrix")) (mNil)))) (mSkip)) (mSeq (mIfS (mTruth (mXis exTab 0 x "BadFormula")) (mExpr (mMut D.isLst gAppend 1 (mCons (mC (.str "formula")) (mNil)))) (mSkip)) (mSeq (mIfS (mTruth (mXis exTab 0 x "BadText")) (mExpr (mMut D.isLst gAppend 1 (mCons (mC (.str "text")) (mNil)))) (mSkip)) (mSeq (mIfS (mTruth (mXis exTab 0 x "NoConnective")) (mExpr (mMut D.isLst gAppend 1 (mCons (mC (.str "name")) (mNil)))) (mSkip)) (mSeq (mIfS (mTruth (mXis exTab 0 x "NotPlain")) (mExpr (mMut D.isLst gAppend 1 (mCons (mC (.str "loose")) (mNil)))) (mSkip)) (mSeq (mIfS (mTruth (mXis exTab 0 x "Unlike")) (mExpr (mMut D.isLst gAppend 1 (mCons (mC (.str "unlike")) (mNil)))) (mSkip)) (mSeq (mIfS (mTruth (mXis exTab 0 x "TooMany")) (mExpr (mMut D.isLst gAppend 1 (mCons (mC (.str "many")) (mNil)))) (mSkip)) (mSeq (mIfS (mTruth (mXis exTab 0 x "Unseparated")) (mExpr (mMut D.isLst gAppend 1 (mCons (mC (.str "unseparated")) (mNil)))) (mSkip)) (mSeq (mIfS (mTruth (mXis exTab 0 x "NoStep")) (mExpr (mMut D.isLst gAppend 1 (mCons (mC (.str "step")) (mNil)))) (mSkip)) (mSeq (mIfS (mTruth (mXis exTab 0 x "BadClaim")) (mExpr (mMut D.isLst gAppend 1 (mCons (mC (.str "claim")) (mNil)))) (mSkip)) (mRet (mVar 1))))))))))))
def m__law_kinds (x : Xn) : MF := mDef 1 2 [] (b__law_kinds x)
/-- slots: 0 matrix -/
def b_need_plain : MS := mIfS (mB (mNotN (mFld clFl "loose" (mVar 0)))) (mRaise "NotPlain" "name" (mFld clFl "loose" (mVar 0))) (mSkip)
def m_need_plain : MF := mDef 1 1 [] b_need_plain
/-- slots: 0 self, 1 name -/
def b_Matrix_entries : MS := mSeq (mIfS (mCmpT (gInD true) (mVar 1) (mFld clFl "_entries" (mVar 0))) (mRaise "NoConnective" "name" (mVar 1)) (mSkip)) (mRet (mDGet (mFld clFl "_entries" (mVar 0)) (mVar 1)))
def m_Matrix_entries : MF := mDef 2 2 [] b_Matrix_entries
/-- slots: 0 size, 1 row, 2 number, 3 value -/
def b_row_number_1 : MS := mAsg (putSlot 2) (mOp gAdd (mOp gMul (mVar 2) (mVar 0)) (mVar 3))
def b_row_number : MS := mSeq (mAsg (putSlot 2) (mC (.int 0))) (mSeq (mFor (mSeqIt (mVar 1)) (putSlot 3) (b_row_number_1)) (mRet (mVar 2)))
def m_row_number : MF := mDef 2 4 [] b_row_number
/-- slots: 0 self, 1 name, 2 row -/
def b_Matrix_entry : MS := mSeq (mIfS (mCmpT (gInD true) (mVar 1) (mFld clFl "_entries" (mVar 0))) (mRaise "NoConnective" "name" (mVar 1)) (mSkip)) (mRet (mIx (mDGet (mFld clFl "_entries" (mVar 0)) (mVar 1)) (mCall [] m_row_number (mCons (mFld clFl "size" (mVar 0)) (mCons (mVar 2) (mNil))))))
def m_Matrix_entry : MF := mDef 3 3 [] b_Matrix_entry
/-- slots: 0 self, 1 name, 2 values, 3 entry -/
def b_Matrix_plain_table_1 : MS := mSeq (mIfS (mCmpT gGt (mCallB gLen (mCons (mVar 3) (mNil))) (mC (.int 1))) (mRaise "NotPlain" "name" (mVar 1)) (mSkip)) (mExpr (mMut D.isLst gAppend 2 (mCons (mIx (mVar 3) (mC (.int 0))) (mNil))))
def b_Matrix_plain_table : MS := mSeq (mAsg (putSlot 2) (mLst (mNil))) (mSeq (mFor (mSeqIt (mMeth "Matrix" "entries" [] m_Matrix_entries (mVar 0) (mCons (mVar 1) (mNil)))) (putSlot 3) (b_Matrix_plain_table_1)) (mRet (mCallB gTuple (mCons (mVar 2) (mNil)))))
def m_Matrix_plain_table : MF := mDef 2 4 [] b_Matrix_plain_table
/-- slots: 0 way, 1 matrix, 2 other, 3 name, 4 row, 5 e, 6 kinds -/
def b__law_asked : MS := mTry exTab "AnytruthsError" 5 (mSeq (mIfS (mCmpT gEq (mVar 0) (mC (.int 0))) (mRet (mTup (mCons (mC (.str "answer")) (mCons (mMeth "Matrix" "places" [] m_Matrix_places (mVar 1) (mCons (mVar 3) (mNil))) (mNil))))) (mSkip)) (mSeq (mIfS (mCmpT gEq (mVar 0) (mC (.int 1))) (mRet (mTup (mCons (mC (.str "answer")) (mCons (mMeth "Matrix" "entries" [] m_Matrix_entries (mVar 1) (mCons (mVar 3) (mNil))) (mNil))))) (mSkip)) (mSeq (mIfS (mCmpT gEq (mVar 0) (mC (.int 2))) (mRet (mTup (mCons (mC (.str "answer")) (mCons (mMeth "Matrix" "entry" [] m_Matrix_entry (mVar 1) (mCons (mVar 3) (mCons (mVar 4) (mNil)))) (mNil))))) (mSkip)) (mSeq (mIfS (mCmpT gEq (mVar 0) (mC (.int 3))) (mRet (mTup (mCons (mC (.str "answer")) (mCons (mMeth "Matrix" "plain_table" [] m_Matrix_plain_table (mVar 1) (mCons (mVar 3) (mNil))) (mNil))))) (mSkip)) (mSeq (mIfS (mCmpT gEq (mVar 0) (mC (.int 4))) (mRet (mTup (mCons (mC (.str "answer")) (mCons (mCall [] m_need_plain (mCons (mVar 1) (mNil))) (mNil))))) (mSkip)) (mRet (mTup (mCons (mC (.str "answer")) (mCons (mCall [] m_need_one_kind (mCons (mVar 1) (mCons (mVar 2) (mNil)))) (mNil)))))))))) (fun x => mSeq (mAsg (putSlot 6) (mCallX 5 x m__law_kinds)) (mSeq (mIfS (mOrT (mCmpT (gIn true) (mVar 6) (mLst (mCons (mLst (mCons (mC (.str "name")) (mNil))) (mCons (mLst (mCons (mC (.str "loose")) (mNil))) (mCons (mLst (mCons (mC (.str "unlike")) (mNil))) (mNil)))))) (mNotT (mTruth (mXis exTab 5 x "ValueError")))) (mRet (mTup (mCons (mC (.str "refused")) (mCons (mC .non) (mNil))))) (mSkip)) (mRet (mTup (mCons (mIx (mVar 6) (mC (.int 0))) (mCons (mXf exFl 5 x "name") (mNil)))))))
def m__law_asked : MF := mDef 5 7 [] b__law_asked
/-- slots: 0 tables, 1 name, 2 places, 3 entries, 4 entry -/
def b__law_loose_1 : MS := mIfS (mCmpT gGt (mCallB gLen (mCons (mComp [4] (mSeqIt (mVar 3)) (putSlot 4) (mCmpT gGt (mCallB gLen (mCons (mVar 4) (mNil))) (mC (.int 1))) (mVar 4)) (mNil))) (mC (.int 0))) (mRet (mTup (mCons (mC (.str "loose")) (mCons (mVar 1) (mNil))))) (mSkip)
def b__law_loose : MS := mSeq (mFor (mSeqIt (mVar 0)) (gTupT 3 (gsCons (putSlot 1) (gsCons (putSlot 2) (gsCons (putSlot 3) (gsNil))))) (b__law_loose_1)) (mRet (mTup (mCons (mC (.str "answer")) (mCons (mC .non) (mNil)))))
def m__law_loose : MF := mDef 1 5 [] b__law_loose
/-- slots: 0 size, 1 places, 2 rows, 3 k, 4 longer, 5 row, 6 value -/
def b__law_rows_1 : MS := mExpr (mMut D.isLst gAppend 4 (mCons (mOp gAdd (mVar 5) (mTup (mCons (mVar 6) (mNil)))) (mNil)))
def b__law_rows_2 : MS := mFor (mRange gRange1 (mCons (mVar 0) (mNil))) (putSlot 6) (b__law_rows_1)
def b__law_rows_3 : MS := mSeq (mAsg (putSlot 4) (mLst (mNil))) (mSeq (mFor (mSeqIt (mCallB gList (mCons (mVar 2) (mNil)))) (putSlot 5) (b__law_rows_2)) (mAsg (putSlot 2) (mVar 4)))
def b__law_rows : MS := mSeq (mAsg (putSlot 2) (mLst (mCons (mTup (mNil)) (mNil)))) (mSeq (mFor (mRange gRange1 (mCons (mVar 1) (mNil))) (putSlot 3) (b__law_rows_3)) (mRet (mVar 2)))
def m__law_rows : MF := mDef 2 7 [] b__law_rows
/-- slots: 0 matrix, 1 size, 2 tables, 3 name, 4 found, 5 way, 6 places, 7 entries, 8 due, 9 rows, 10 k, 11 table, 12 entry -/
def b__law_name_right_1 : MS := mIfS (mNotT (mTruth (mCall [] m__law_exact (mCons (mCall [] m__law_asked (mCons (mVar 5) (mCons (mVar 0) (mCons (mVar 0) (mCons (mVar 3) (mCons (mTup (mCons (mC (.int 0)) (mCons (mC (.int 1)) (mNil)))) (mNil))))))) (mCons (mTup (mCons (mC (.str "name")) (mCons (mVar 3) (mNil)))) (mNil)))))) (mRet (mC (.bl false))) (mSkip)
def b__law_name_right_2 : MS := mIfS (mNotT (mTruth (mCall [] m__law_exact (mCons (mCall [] m__law_asked (mCons (mC (.int 2)) (mCons (mVar 0) (mCons (mVar 0) (mCons (mVar 3) (mCons (mIx (mVar 9) (mVar 10)) (mNil))))))) (mCons (mTup (mCons (mC (.str "answer")) (mCons (mIx (mVar 7) (mVar 10)) (mNil)))) (mNil)))))) (mRet (mC (.bl false))) (mSkip)
def b__law_name_right : MS := mSeq (mAsg (putSlot 4) (mComp [11] (mSeqIt (mVar 2)) (putSlot 11) (mCmpT gEq (mIx (mVar 11) (mC (.int 0))) (mVar 3)) (mVar 11))) (mSeq (mIfS (mCmpT gNe (mOp (gInOwn false "Matrix" "names") (mVar 3) (mVar 0)) (mOp gEq (mCallB gLen (mCons (mVar 4) (mNil))) (mC (.int 1)))) (mRet (mC (.bl false))) (mSkip)) (mSeq (mIfS (mCmpT gEq (mCallB gLen (mCons (mVar 4) (mNil))) (mC (.int 0))) (mSeq (mFor (mRange gRange1 (mCons (mC (.int 4)) (mNil))) (putSlot 5) (b__law_name_right_1)) (mRet (mC (.bl true)))) (mSkip)) (mSeq (mAsg (putSlot 6) (mIx (mIx (mVar 4) (mC (.int 0))) (mC (.int 1)))) (mSeq (mAsg (putSlot 7) (mIx (mIx (mVar 4) (mC (.int 0))) (mC (.int 2)))) (mSeq (mAsg (putSlot 8) (mCall [] m__law_loose (mCons (mVar 4) (mNil)))) (mSeq (mIfS (mCmpT gEq (mIx (mVar 8) (mC (.int 0))) (mC (.str "answer"))) (mAsg (putSlot 8) (mTup (mCons (mC (.str "answer")) (mCons (mCallB gTuple (mCons (mComp [12] (mSeqIt (mVar 7)) (putSlot 12) (mPure true) (mIx (mVar 12) (mC (.int 0)))) (mNil))) (mNil))))) (mSkip)) (mSeq (mAsg (putSlot 9) (mCall [] m__law_rows (mCons (mVar 1) (mCons (mVar 6) (mNil))))) (mSeq (mFor (mRange gRange1 (mCons (mCallB gLen (mCons (mVar 9) (mNil))) (mNil))) (putSlot 10) (b__law_name_right_2)) (mSeq (mIfS (mNotT (mTruth (mCall [] m__law_exact (mCons (mCall [] m__law_asked (mCons (mC (.int 0)) (mCons (mVar 0) (mCons (mVar 0) (mCons (mVar 3) (mCons (mTup (mNil)) (mNil))))))) (mCons (mTup (mCons (mC (.str "answer")) (mCons (mVar 6) (mNil)))) (mNil)))))) (mRet (mC (.bl false))) (mSkip)) (mSeq (mIfS (mNotT (mTruth (mCall [] m__law_exact (mCons (mCall [] m__law_asked (mCons (mC (.int 3)) (mCons (mVar 0) (mCons (mVar 0) (mCons (mVar 3) (mCons (mTup (mNil)) (mNil))))))) (mCons (mVar 8) (mNil)))))) (mRet (mC (.bl false))) (mSkip)) (mRet (mCall [] m__law_exact (mCons (mCall [] m__law_asked (mCons (mC (.int 1)) (mCons (mVar 0) (mCons (mVar 0) (mCons (mVar 3) (mCons (mTup (mNil)) (mNil))))))) (mCons (mTup (mCons (mC (.str "answer")) (mCons (mVar 7) (mNil)))) (mNil)))))))))))))))
def m__law_name_right : MF := mDef 4 13 [] b__law_name_right
/-- slots: 0 matrix, 1 size, 2 tables, 3 asked, 4 name, 5 table -/
def b__law_matrix_right_1 : MS := mIfS (mNotT (mTruth (mCall [] m__law_name_right (mCons (mVar 0) (mCons (mVar 1) (mCons (mVar 2) (mCons (mVar 4) (mNil)))))))) (mRet (mC (.bl false))) (mSkip)
def b__law_matrix_right : MS := mSeq (mIfS (mNotT (mTruth (mCall [] m__law_exact (mCons (mCallB gTuple (mCons (mComp [4] (mOwnIt "Matrix" "names" (mVar 0)) (putSlot 4) (mPure true) (mVar 4)) (mNil))) (mCons (mCallB gTuple (mCons (mComp [5] (mSeqIt (mVar 2)) (putSlot 5) (mPure true) (mIx (mVar 5) (mC (.int 0)))) (mNil))) (mNil)))))) (mRet (mC (.bl false))) (mSkip)) (mSeq (mIfS (mNotT (mTruth (mCall [] m__law_exact (mCons (mCall [] m__law_asked (mCons (mC (.int 4)) (mCons (mVar 0) (mCons (mVar 0) (mCons (mC (.str "")) (mCons (mTup (mNil)) (mNil))))))) (mCons (mCall [] m__law_loose (mCons (mVar 2) (mNil))) (mNil)))))) (mRet (mC (.bl false))) (mSkip)) (mSeq (mFor (mSeqIt (mVar 3)) (putSlot 4) (b__law_matrix_right_1)) (mRet (mC (.bl true)))))
def m__law_matrix_right : MF := mDef 4 6 [] b__law_matrix_right
/-- slots: 0 script, 1 k -/
def b__law_cell : MS := mSeq (mIfS (mCmpT gLt (mVar 1) (mCallB gLen (mCons (mVar 0) (mNil)))) (mRet (mCallB gInt (mCons (mIx (mVar 0) (mVar 1)) (mNil)))) (mSkip)) (mRet (mC (.int 0)))
def m__law_cell : MF := mDef 2 2 [] b__law_cell
/-- slots: 0 stream, 1 size, 2 least, 3 sign, 4 value -/
def b__law_sign_1 : MS := mIfS (mCmpT gEq (mCall [0] m__law_next (mCons (mVar 0) (mCons (mC (.int 2)) (mNil)))) (mC (.int 1))) (mAsg (putSlot 3) (mOp gAdd (mVar 3) (mTup (mCons (mVar 4) (mNil))))) (mSkip)
def b__law_sign : MS := mSeq (mAsg (putSlot 3) (mTup (mNil))) (mSeq (mFor (mRange gRange1 (mCons (mVar 1) (mNil))) (putSlot 4) (b__law_sign_1)) (mSeq (mIfS (mCmpT gLt (mCallB gLen (mCons (mVar 3) (mNil))) (mVar 2)) (mAsg (putSlot 3) (mTup (mCons (mCall [0] m__law_next (mCons (mVar 0) (mCons (mVar 1) (mNil)))) (mNil)))) (mSkip)) (mRet (mVar 3))))
def m__law_sign : MF := mDef 3 5 [0] b__law_sign
/-- slots: 0 stream, 1 size, 2 sign -/
def b__law_designated : MS := mSeq (mAsg (putSlot 2) (mCall [0] m__law_sign (mCons (mVar 0) (mCons (mVar 1) (mCons (mC (.int 1)) (mNil)))))) (mSeq (mIfS (mCmpT gEq (mCallB gLen (mCons (mVar 2) (mNil))) (mVar 1)) (mRet (mTup (mCons (mOp gSub (mVar 1) (mC (.int 1))) (mNil)))) (mSkip)) (mRet (mVar 2)))
def m__law_designated : MF := mDef 2 3 [0] b__law_designated
/-- slots: 0 stream, 1 pairs, 2 at -/
def b__law_left_out : MS := mSeq (mAsg (putSlot 2) (mCall [0] m__law_next (mCons (mVar 0) (mCons (mCallB gLen (mCons (mVar 1) (mNil))) (mNil))))) (mRet (mOp gAdd (mSl (mVar 1) (mNoPart) (mPart (mVar 2))) (mSl (mVar 1) (mPart (mOp gAdd (mVar 2) (mC (.int 1)))) (mNoPart))))
def m__law_left_out : MF := mDef 2 3 [0] b__law_left_out
/-- slots: 0 stream, 1 wide, 2 pairs, 3 at, 4 places -/
def b__law_other_places : MS := mSeq (mAsg (putSlot 3) (mCall [0] m__law_next (mCons (mVar 0) (mCons (mCallB gLen (mCons (mVar 2) (mNil))) (mNil))))) (mSeq (mAsg (putSlot 4) (mOp gMod (mCallB gInt (mCons (mOp gAdd (mOp gAdd (mIx (mIx (mVar 2) (mVar 3)) (mC (.int 1))) (mC (.int 1))) (mCall [0] m__law_next (mCons (mVar 0) (mCons (mC (.int 2)) (mNil))))) (mNil))) (mC (.int 3)))) (mSeq (mIfS (mCmpT gEq (mVar 1) (mC (.int 2))) (mAsg (putSlot 4) (mOp gMod (mCallB gInt (mCons (mOp gAdd (mOp gAdd (mIx (mIx (mVar 2) (mVar 3)) (mC (.int 1))) (mC (.int 1))) (mCall [0] m__law_next (mCons (mVar 0) (mCons (mC (.int 3)) (mNil))))) (mNil))) (mC (.int 4)))) (mSkip)) (mRet (mOp gAdd (mOp gAdd (mSl (mVar 2) (mNoPart) (mPart (mVar 3))) (mLst (mCons (mTup (mCons (mIx (mIx (mVar 2) (mVar 3)) (mC (.int 0))) (mCons (mVar 4) (mNil)))) (mNil)))) (mSl (mVar 2) (mPart (mOp gAdd (mVar 3) (mC (.int 1)))) (mNoPart))))))
def m__law_other_places : MF := mDef 3 5 [0] b__law_other_places
/-- slots: 0 stream, 1 pairs, 2 name, 3 at, 4 pair -/
def b__law_one_more : MS := mSeq (mAsg (putSlot 3) (mCall [0] m__law_next (mCons (mVar 0) (mCons (mOp gAdd (mCallB gLen (mCons (mVar 1) (mNil))) (mC (.int 1))) (mNil))))) (mSeq (mIfS (mOrT (mCmpT gEq (mCallB gLen (mCons (mVar 1) (mNil))) (mC (.int 6))) (mCmpT (gIn false) (mVar 2) (mComp [4] (mSeqIt (mVar 1)) (putSlot 4) (mPure true) (mIx (mVar 4) (mC (.int 0)))))) (mRet (mVar 1)) (mSkip)) (mRet (mOp gAdd (mOp gAdd (mSl (mVar 1) (mNoPart) (mPart (mVar 3))) (mLst (mCons (mTup (mCons (mVar 2) (mCons (mCall [0] m__law_next (mCons (mVar 0) (mCons (mC (.int 3)) (mNil)))) (mNil)))) (mNil)))) (mSl (mVar 1) (mPart (mVar 3)) (mNoPart)))))
def m__law_one_more : MF := mDef 3 5 [0] b__law_one_more
/-- slots: 0 stream, 1 name, 2 letter, 3 near -/
def b__law_near_name : MS := mSeq (mAsg (putSlot 2) (mIx (mC (.str "abcdefghijklmnopqrstuvwxyz")) (mCall [0] m__law_next (mCons (mVar 0) (mCons (mC (.int 26)) (mNil)))))) (mSeq (mAsg (putSlot 3) (mLst (mCons (mOp gAdd (mSl (mVar 1) (mNoPart) (mPart (mUn gNeg (mC (.int 1))))) (mVar 2)) (mCons (mOp gAdd (mVar 2) (mSl (mVar 1) (mPart (mC (.int 1))) (mNoPart))) (mCons (mSl (mOp gAdd (mVar 1) (mVar 2)) (mNoPart) (mPart (mC (.int 8)))) (mCons (mOp gAdd (mVar 2) (mSl (mVar 1) (mNoPart) (mPart (mC (.int 7))))) (mNil))))))) (mRet (mIx (mVar 3) (mCall [0] m__law_next (mCons (mVar 0) (mCons (mC (.int 4)) (mNil)))))))
def m__law_near_name : MF := mDef 2 4 [0] b__law_near_name
/-- slots: 0 stream, 1 pairs, 2 at, 3 name, 4 pair -/
def b__law_renamed : MS := mSeq (mAsg (putSlot 2) (mCall [0] m__law_next (mCons (mVar 0) (mCons (mCallB gLen (mCons (mVar 1) (mNil))) (mNil))))) (mSeq (mAsg (putSlot 3) (mCall [0] m__law_near_name (mCons (mVar 0) (mCons (mIx (mIx (mVar 1) (mVar 2)) (mC (.int 0))) (mNil))))) (mSeq (mIfS (mCmpT (gIn false) (mVar 3) (mComp [4] (mSeqIt (mVar 1)) (putSlot 4) (mPure true) (mIx (mVar 4) (mC (.int 0))))) (mRet (mVar 1)) (mSkip)) (mRet (mOp gAdd (mOp gAdd (mSl (mVar 1) (mNoPart) (mPart (mVar 2))) (mLst (mCons (mTup (mCons (mVar 3) (mCons (mIx (mIx (mVar 1) (mVar 2)) (mC (.int 1))) (mNil)))) (mNil)))) (mSl (mVar 1) (mPart (mOp gAdd (mVar 2) (mC (.int 1)))) (mNoPart))))))
def m__law_renamed : MF := mDef 2 5 [0] b__law_renamed
/-- slots: 0 stream, 1 size, 2 pairs, 3 way -/
def b__law_changed : MS := mSeq (mIfS (mAndT (mCmpT gEq (mVar 3) (mC (.int 1))) (mCmpT gGt (mCallB gLen (mCons (mVar 2) (mNil))) (mC (.int 0)))) (mRet (mCall [0] m__law_left_out (mCons (mVar 0) (mCons (mVar 2) (mNil))))) (mSkip)) (mSeq (mIfS (mAndT (mCmpT gEq (mVar 3) (mC (.int 2))) (mCmpT gGt (mCallB gLen (mCons (mVar 2) (mNil))) (mC (.int 0)))) (mRet (mCall [0] m__law_other_places (mCons (mVar 0) (mCons (mVar 1) (mCons (mVar 2) (mNil)))))) (mSkip)) (mSeq (mIfS (mCmpT gEq (mVar 3) (mC (.int 3))) (mRet (mCall [0] m__law_one_more (mCons (mVar 0) (mCons (mVar 2) (mCons (mCall [0] m__law_name (mCons (mVar 0) (mNil))) (mNil)))))) (mSkip)) (mSeq (mIfS (mAndT (mCmpT gEq (mVar 3) (mC (.int 4))) (mCmpT gGt (mCallB gLen (mCons (mVar 2) (mNil))) (mC (.int 0)))) (mRet (mCall [0] m__law_renamed (mCons (mVar 0) (mCons (mVar 2) (mNil))))) (mSkip)) (mSeq (mIfS (mAndT (mCmpT gEq (mVar 3) (mC (.int 5))) (mCmpT gGt (mCallB gLen (mCons (mVar 2) (mNil))) (mC (.int 0)))) (mRet (mCall [0] m__law_one_more (mCons (mVar 0) (mCons (mVar 2) (mCons (mCall [0] m__law_near_name (mCons (mVar 0) (mCons (mIx (mIx (mVar 2) (mCall [0] m__law_next (mCons (mVar 0) (mCons (mCallB gLen (mCons (mVar 2) (mNil))) (mNil))))) (mC (.int 0))) (mNil)))) (mNil)))))) (mSkip)) (mSeq (mIfS (mCmpT gEq (mVar 3) (mC (.int 6))) (mRet (mLst (mNil))) (mSkip)) (mRet (mVar 2)))))))
def m__law_changed : MF := mDef 4 4 [0] b__law_changed
/-- slots: 0 stream, 1 size, 2 tables, 3 way, 4 pairs, 5 wide, 6 k, 7 at, 8 made, 9 name, 10 places, 11 entries, 12 table, 13 pair -/
def b__law_other_1 : MS := mAsg (putSlot 4) (mCall [0] m__law_changed (mCons (mVar 0) (mCons (mVar 5) (mCons (mFrz (mVar 4)) (mCons (mOp gAdd (mC (.int 1)) (mCall [0] m__law_next (mCons (mVar 0) (mCons (mC (.int 5)) (mNil))))) (mNil))))))
def b__law_other_2 : MS := mExpr (mMut D.isLst gAppend 11 (mCons (mTup (mCons (mCall [0] m__law_next (mCons (mVar 0) (mCons (mVar 5) (mNil)))) (mNil))) (mNil)))
def b__law_other_3 : MS := mSeq (mAsg (putSlot 11) (mLst (mNil))) (mSeq (mFor (mRange gRange1 (mCons (mCall [] m__law_count (mCons (mVar 5) (mCons (mVar 10) (mNil)))) (mNil))) (putSlot 6) (b__law_other_2)) (mSeq (mIfS (mCmpT gEq (mCall [0] m__law_next (mCons (mVar 0) (mCons (mC (.int 4)) (mNil)))) (mC (.int 0))) (mSetIx D.isLst gSetL 11 (mCall [0] m__law_next (mCons (mVar 0) (mCons (mCallB gLen (mCons (mVar 11) (mNil))) (mNil)))) (mTupRg (mVar 5))) (mSkip)) (mExpr (mMut D.isLst gAppend 8 (mCons (mTup (mCons (mVar 9) (mCons (mVar 10) (mCons (mCallB gTuple (mCons (mVar 11) (mNil))) (mNil))))) (mNil))))))
def b__law_other : MS := mSeq (mAsg (putSlot 4) (mComp [12] (mSeqIt (mVar 2)) (putSlot 12) (mPure true) (mTup (mCons (mIx (mVar 12) (mC (.int 0))) (mCons (mIx (mVar 12) (mC (.int 1))) (mNil)))))) (mSeq (mAsg (putSlot 5) (mVar 1)) (mSeq (mIfS (mAndT (mCmpT gEq (mVar 3) (mC (.int 0))) (mCmpT gEq (mCallB gLen (mCons (mComp [13] (mSeqIt (mVar 4)) (putSlot 13) (mCmpT gEq (mIx (mVar 13) (mC (.int 1))) (mC (.int 3))) (mVar 13)) (mNil))) (mC (.int 0)))) (mAsg (putSlot 5) (mOp gAdd (mC (.int 2)) (mCall [0] m__law_next (mCons (mVar 0) (mCons (mC (.int 3)) (mNil)))))) (mSkip)) (mSeq (mAsg (putSlot 4) (mCall [0] m__law_changed (mCons (mVar 0) (mCons (mVar 5) (mCons (mFrz (mVar 4)) (mCons (mVar 3) (mNil))))))) (mSeq (mIfS (mCmpT gEq (mVar 3) (mC (.int 7))) (mFor (mRange gRange1 (mCons (mC (.int 2)) (mNil))) (putSlot 6) (b__law_other_1)) (mSkip)) (mSeq (mAsg (putSlot 7) (mCall [0] m__law_next (mCons (mVar 0) (mCons (mOp gAdd (mCallB gLen (mCons (mVar 4) (mNil))) (mC (.int 1))) (mNil))))) (mSeq (mAsg (putSlot 4) (mOp gAdd (mSl (mVar 4) (mPart (mVar 7)) (mNoPart)) (mSl (mVar 4) (mNoPart) (mPart (mVar 7))))) (mSeq (mAsg (putSlot 8) (mLst (mNil))) (mSeq (mFor (mSeqIt (mVar 4)) (gTupT 2 (gsCons (putSlot 9) (gsCons (putSlot 10) (gsNil)))) (b__law_other_3)) (mRet (mTup (mCons (mVar 5) (mCons (mVar 8) (mNil)))))))))))))
def m__law_other : MF := mDef 4 14 [0] b__law_other
/-- slots: 0 one, 1 other, 2 name, 3 mine, 4 table -/
def b__law_unlike_1 : MS := mSeq (mAsg (putSlot 3) (mComp [4] (mSeqIt (mVar 0)) (putSlot 4) (mCmpT gEq (mIx (mVar 4) (mC (.int 0))) (mVar 2)) (mIx (mVar 4) (mC (.int 1))))) (mIfS (mCmpT gNe (mVar 3) (mComp [4] (mSeqIt (mVar 1)) (putSlot 4) (mCmpT gEq (mIx (mVar 4) (mC (.int 0))) (mVar 2)) (mIx (mVar 4) (mC (.int 1))))) (mRet (mTup (mCons (mC (.str "unlike")) (mCons (mVar 2) (mNil))))) (mSkip))
def b__law_unlike : MS := mSeq (mFor (mSeqIt (mCallB gSorted (mCons (mOp gAdd (mComp [4] (mSeqIt (mVar 0)) (putSlot 4) (mPure true) (mIx (mVar 4) (mC (.int 0)))) (mComp [4] (mSeqIt (mVar 1)) (putSlot 4) (mPure true) (mIx (mVar 4) (mC (.int 0))))) (mNil)))) (putSlot 2) (b__law_unlike_1)) (mRet (mTup (mCons (mC (.str "answer")) (mCons (mC .non) (mNil)))))
def m__law_unlike : MF := mDef 2 5 [] b__law_unlike
/-- slots: 0 word -/
def b_is_letter : MS := mRet (mAndV (mOp gEq (mCallB gLen (mCons (mVar 0) (mNil))) (mC (.int 1))) (mChain gLe gLe (mC (.str "a")) (mVar 0) (mC (.str "z"))))
def m_is_letter : MF := mDef 1 1 [] b_is_letter
/-- slots: 0 script, 1 stream, 2 size, 3 tables, 4 matrix, 5 changes, 6 way, 7 wide, 8 made, 9 other, 10 asked, 11 word, 12 letter, 13 table -/
def b_law_1 : MS := mSeq (mAsg (gSeqT 2 (gsCons (putSlot 7) (gsCons (putSlot 8) (gsNil)))) (mCall [0] m__law_other (mCons (mVar 5) (mCons (mVar 2) (mCons (mVar 3) (mCons (mVar 6) (mNil))))))) (mSeq (mAsg (putSlot 9) (mMake "Matrix" m_Matrix___init__ (mCons (mVar 7) (mCons (mCall [0] m__law_designated (mCons (mVar 5) (mCons (mVar 7) (mNil)))) (mCons (mCallB gTuple (mCons (mVar 8) (mNil))) (mNil)))))) (mSeq (mIfS (mNotT (mTruth (mCall [] m__law_exact (mCons (mCall [] m__law_asked (mCons (mC (.int 5)) (mCons (mVar 4) (mCons (mVar 9) (mCons (mC (.str "")) (mCons (mTup (mNil)) (mNil))))))) (mCons (mCall [] m__law_unlike (mCons (mVar 3) (mCons (mVar 8) (mNil)))) (mNil)))))) (mRet (mC (.bl false))) (mSkip)) (mSeq (mIfS (mNotT (mTruth (mCall [] m__law_exact (mCons (mCall [] m__law_asked (mCons (mC (.int 5)) (mCons (mVar 9) (mCons (mVar 4) (mCons (mC (.str "")) (mCons (mTup (mNil)) (mNil))))))) (mCons (mCall [] m__law_unlike (mCons (mVar 8) (mCons (mVar 3) (mNil)))) (mNil)))))) (mRet (mC (.bl false))) (mSkip)) (mSeq (mAsg (putSlot 10) (mOp gAdd (mComp [13] (mSeqIt (mVar 3)) (putSlot 13) (mPure true) (mIx (mVar 13) (mC (.int 0)))) (mComp [13] (mSeqIt (mVar 8)) (putSlot 13) (mPure true) (mIx (mVar 13) (mC (.int 0)))))) (mIfS (mNotT (mTruth (mCall [] m__law_matrix_right (mCons (mVar 9) (mCons (mVar 7) (mCons (mVar 8) (mCons (mVar 10) (mNil)))))))) (mRet (mC (.bl false))) (mSkip))))))
def b_law_2 : MS := mSeq (mAsg (putSlot 12) (mAndV (mOp gEq (mCallB gLen (mCons (mVar 11) (mNil))) (mC (.int 1))) (mOp (gInSg false) (mVar 11) (mC (.str "abcdefghijklmnopqrstuvwxyz"))))) (mIfS (mNotT (mTruth (mCall [] m__law_exact (mCons (mCall [] m_is_letter (mCons (mVar 11) (mNil))) (mCons (mVar 12) (mNil)))))) (mRet (mC (.bl false))) (mSkip))
def b_law : MS := mSeq (mAsg (putSlot 1) (mCall [] m__law_stream (mCons (mCall [] m__law_cell (mCons (mVar 0) (mCons (mC (.int 0)) (mNil)))) (mNil)))) (mSeq (mAsg (putSlot 2) (mOp gAdd (mC (.int 2)) (mCall [0] m__law_next (mCons (mVar 1) (mCons (mC (.int 3)) (mNil)))))) (mSeq (mAsg (putSlot 3) (mCall [0] m__law_tables (mCons (mVar 1) (mCons (mVar 2) (mCons (mOp gEq (mCall [0] m__law_next (mCons (mVar 1) (mCons (mC (.int 3)) (mNil)))) (mC (.int 0))) (mNil)))))) (mSeq (mAsg (putSlot 4) (mMake "Matrix" m_Matrix___init__ (mCons (mVar 2) (mCons (mCall [0] m__law_designated (mCons (mVar 1) (mCons (mVar 2) (mNil)))) (mCons (mCallB gTuple (mCons (mVar 3) (mNil))) (mNil)))))) (mSeq (mIfS (mNotT (mTruth (mCall [] m__law_matrix_right (mCons (mVar 4) (mCons (mVar 2) (mCons (mVar 3) (mCons (mComp [13] (mSeqIt (mVar 3)) (putSlot 13) (mPure true) (mIx (mVar 13) (mC (.int 0)))) (mNil)))))))) (mRet (mC (.bl false))) (mSkip)) (mSeq (mAsg (putSlot 5) (mCall [] m__law_stream (mCons (mCall [] m__law_cell (mCons (mVar 0) (mCons (mC (.int 1)) (mNil)))) (mNil)))) (mSeq (mFor (mRange gRange1 (mCons (mC (.int 8)) (mNil))) (putSlot 6) (b_law_1)) (mSeq (mAsg (putSlot 10) (mCall [] m__law_near_names (mCons (mComp [13] (mSeqIt (mVar 3)) (putSlot 13) (mPure true) (mIx (mVar 13) (mC (.int 0)))) (mNil)))) (mSeq (mFor (mSeqIt (mVar 10)) (putSlot 11) (b_law_2)) (mSeq (mIfS (mNotT (mTruth (mCall [] m__law_exact (mCons (mCall [] m__law_asked (mCons (mC (.int 5)) (mCons (mVar 4) (mCons (mVar 4) (mCons (mC (.str "")) (mCons (mTup (mNil)) (mNil))))))) (mCons (mTup (mCons (mC (.str "answer")) (mCons (mC .non) (mNil)))) (mNil)))))) (mRet (mC (.bl false))) (mSkip)) (mRet (mCall [] m__law_matrix_right (mCons (mVar 4) (mCons (mVar 2) (mCons (mVar 3) (mCons (mVar 10) (mNil))))))))))))))))
def m_law : MF := mDef 1 14 [] b_law
end G

namespace G
open PySem Av
def Str3 (d : D) : Prop := ∃ a b c : Int, d = .lst [.int a, .int b, .int c]
theorem next_eq {st : D} (hs : Str3 st) (l : Int) (hl : 0 < l) (hl2 : l < 1073741824) : ∃ d st', Str3 st' ∧ 0 ≤ d ∧ d < l ∧ m__law_next [.io st, .sh (.int l)] = .ok (.val (.int d)) [st'] := by
  obtain ⟨a, b, c, rfl⟩ := hs
  unfold m__law_next b__law_next
  by_cases h : 0 < a
  · refine ⟨a % l, _, ⟨a / l, b, c + 1, rfl⟩, Int.emod_nonneg _ (by omega), Int.emod_lt_of_pos _ hl, ?_⟩
    simp [L2.atI, L2.ixN, h, hl, hl2]
  · have h1 : ((b % 2147483647 + 7919 * (c + 1)) * 48271 % 2147483647).natAbs < 18446744073709551616 := by omega
    refine ⟨(((b % 2147483647 + 7919 * (c + 1)) * 48271 % 2147483647) * ((b % 2147483647 + 7919 * (c + 1)) * 48271 % 2147483647) + 69621 * (c + 1)) % 1000003 % l, _, ⟨a, b, c + 1, rfl⟩, Int.emod_nonneg _ (by omega), Int.emod_lt_of_pos _ hl, ?_⟩
    simp [L2.atI, L2.ixN, h, hl, h1]
theorem stream_eq (v : Int) : ∃ st, Str3 st ∧ m__law_stream [.sh (.int v)] = .ok (.fresh st) [] := by
  unfold m__law_stream b__law_stream
  by_cases h : (if v < 0 then -v else v) < 1000000000000000000
  · exact ⟨_, ⟨0, v, 0, rfl⟩, by simp [sizeN, h]⟩
  · exact ⟨_, ⟨(if v < 0 then -v else v), v, 0, rfl⟩, by simp [sizeN, h]⟩
theorem cell_eq (ns : List Int) (k : Nat) : ∃ v, m__law_cell [.sh (.lst (ns.map .int)), .sh (.int k)] = .ok (.val (.int v)) [] := by
  unfold m__law_cell b__law_cell
  by_cases h : k < ns.length
  · exact ⟨ns[k], by simp [L2.atI, L2.ixN, h]⟩
  · exact ⟨0, by simp [h]⟩
/-- a tuple of ints -/
def dS (xs : List Int) : D := .tup (xs.map .int)
@[simp] theorem dS_imm {xs : List Int} : (dS xs).imm = true := by unfold dS; rw [D.imm]; exact imms_ints
@[simp] theorem dS_not : (dS xs).isNon = false := rfl
def sgI (s : Int) : Int → List Int → Bool
  | _, [] => true
  | k, i :: r => decide (k ≤ i) && decide (i < s) && sgI s (i + 1) r
theorem value_eq (s i : Int) : m_is_value [.sh (.int s), .sh (.int i)] = .ok (.val (.bl (decide (0 ≤ i) && decide (i < s)))) [] := by
  unfold m_is_value b_is_value
  by_cases h : 0 ≤ i <;> simp [h]
theorem sign_loop (s k : Int) (x : D) (v : SV) (xs : List Int) (hv : canPut (some v) = true) (hk : 0 ≤ k) :
    ∃ sd, forGo (putSlot 3) b_is_sign_1 ((xs.map D.int).map .val) [.sh (.int s), .sh x, .sh (.int k), v] = if sgI s k xs then .nx sd else .ret (.val (.bl false)) sd := by
  induction xs generalizing k v with
  | nil => exact ⟨_, rfl⟩
  | cons i ys ih =>
    have hy := value_eq s i
    rw [List.map_cons, List.map_cons, forGo_cons]
    by_cases h0 : 0 ≤ i
    · by_cases h1 : i < s
      · by_cases h2 : i < k
        · have e : sgI s k (i :: ys) = false := by simp [sgI]; omega
          unfold b_is_sign_1
          simp [e, hv, hy, h0, h1, h2]
        · have e : sgI s k (i :: ys) = sgI s (i + 1) ys := by
            have : k ≤ i := by omega
            simp [sgI, h1, this]
          rw [e]
          obtain ⟨sd, h⟩ := ih (i + 1) (.sh (.int i)) rfl (by omega)
          refine ⟨sd, ?_⟩
          rw [← h]
          conv => lhs; unfold b_is_sign_1
          simp [hv, hy, h0, h1, h2]
          rfl
      · have e : sgI s k (i :: ys) = false := by simp [sgI, h1]
        unfold b_is_sign_1
        simp [e, hv, hy, h0, h1]
    · have e : sgI s k (i :: ys) = false := by simp [sgI]; omega
      unfold b_is_sign_1
      simp [e, hv, hy, h0]
theorem sign_eq (s : Int) (xs : List Int) : m_is_sign [.sh (.int s), .sh (dS xs)] = .ok (.val (.bl (sgI s 0 xs))) [] := by
  unfold m_is_sign b_is_sign
  obtain ⟨sd, h⟩ := sign_loop s 0 (dS xs) .no xs rfl (by omega)
  cases e : sgI s 0 xs with
  | true => rw [e] at h; unfold dS at h ⊢; simp [-List.map_map, h]
  | false => rw [e] at h; unfold dS at h ⊢; simp [-List.map_map, h]
def letter (c : Nat) : Bool := decide (97 ≤ c) && decide (c ≤ 122)
theorem cps_a : ("a" : Str).cps.toList = [97] := by decide +kernel
theorem cps_z : ("z" : Str).cps.toList = [122] := by decide +kernel
theorem cps_abc : ("abcdefghijklmnopqrstuvwxyz" : Str).cps.toList = [97,98,99,100,101,102,103,104,105,106,107,108,109,110,111,112,113,114,115,116,117,118,119,120,121,122] := by decide +kernel
theorem le_a (c : Nat) : gLe (.str "a") (.str ⟨#[c]⟩) = some (.val (.bl (decide (97 ≤ c)))) := by
  show some (RV.val (.bl (!decide ([c] < ("a" : Str).cps.toList)))) = _
  rw [cps_a]
  by_cases h : 97 ≤ c
  · have : ¬ [c] < [97] := by simp [List.cons_lt_cons_iff]; omega
    simp [this, h]
  · have : [c] < [97] := by simp [List.cons_lt_cons_iff]; omega
    simp [this, h]
theorem le_z (c : Nat) : gLe (.str ⟨#[c]⟩) (.str "z") = some (.val (.bl (decide (c ≤ 122)))) := by
  show some (RV.val (.bl (!decide (("z" : Str).cps.toList < [c])))) = _
  rw [cps_z]
  by_cases h : c ≤ 122
  · have : ¬ [122] < [c] := by simp [List.cons_lt_cons_iff]; omega
    simp [this, h]
  · have : [122] < [c] := by simp [List.cons_lt_cons_iff]; omega
    simp [this, h]
theorem in_abc (c : Nat) : gInSg true (.str ⟨#[c]⟩) (.str "abcdefghijklmnopqrstuvwxyz") = some (.val (.bl (!letter c))) := by
  show some (RV.val (.bl (true.xor (decide (c ∈ ("abcdefghijklmnopqrstuvwxyz" : Str).cps.toList))))) = _
  rw [cps_abc]
  unfold letter
  by_cases h : 97 ≤ c ∧ c ≤ 122
  · have : c ∈ [97,98,99,100,101,102,103,104,105,106,107,108,109,110,111,112,113,114,115,116,117,118,119,120,121,122] := by
      simp; omega
    rw [decide_eq_true this, decide_eq_true h.1, decide_eq_true h.2]; rfl
  · have : ¬ c ∈ [97,98,99,100,101,102,103,104,105,106,107,108,109,110,111,112,113,114,115,116,117,118,119,120,121,122] := by
      simp; omega
    rw [decide_eq_false this]
    by_cases h1 : 97 ≤ c
    · rw [decide_eq_true h1, decide_eq_false (fun z => h ⟨h1, z⟩)]; rfl
    · rw [decide_eq_false h1]; rfl
def oneC (c : Nat) : RV := .val (.str ⟨#[c]⟩)
theorem name_loop (x : D) (v : SV) (cs : List Nat) (hv : canPut (some v) = true) :
    ∃ sd, forGo (putSlot 1) b_is_name_1 (cs.map oneC) [.sh x, v] = if cs.all letter then .nx sd else .ret (.val (.bl false)) sd := by
  induction cs generalizing v with
  | nil => exact ⟨_, rfl⟩
  | cons c ys ih =>
    rw [List.map_cons, forGo_cons]
    by_cases h0 : 97 ≤ c
    · by_cases h1 : c ≤ 122
      · have e : (c :: ys).all letter = ys.all letter := by simp [letter, h0, h1]
        rw [e]
        obtain ⟨sd, h⟩ := ih (.sh (.str ⟨#[c]⟩)) rfl
        refine ⟨sd, ?_⟩
        rw [← h]
        conv => lhs; unfold b_is_name_1
        simp [oneC, hv, le_a, le_z, h0, h1]
        rfl
      · have e : (c :: ys).all letter = false := by simp [letter, h1]
        unfold b_is_name_1
        simp only [e]
        simp [oneC, hv, le_a, le_z, h0, h1]
    · have e : (c :: ys).all letter = false := by simp [letter, h0]
      unfold b_is_name_1
      simp only [e]
      simp [oneC, hv, le_a, le_z, h0]
def nmOk (x : Str) : Bool := decide (2 ≤ x.length) && decide (x.length ≤ 8) && x.cps.toList.all letter
theorem strItems_eq (x : Str) : strItems x = x.cps.toList.map oneC := rfl
theorem is_name_eq (x : Str) (hx : x.length ≤ 16777216) : m_is_name [.sh (.str x)] = .ok (.val (.bl (nmOk x))) [] := by
  unfold m_is_name b_is_name nmOk
  obtain ⟨sd, h⟩ := name_loop (.str x) .no x.cps.toList rfl
  by_cases h1 : 2 ≤ x.length
  · by_cases h2 : x.length ≤ 8
    · have h1' : (2 : Int) ≤ x.length := by omega
      have h2' : (x.length : Int) ≤ 8 := by omega
      cases e : x.cps.toList.all letter with
      | true => rw [e] at h; simp only [mStrIt]; simp [mStrIt, strItems_eq, sizeN, hx, h, h1, h2, h1', h2']
      | false => rw [e] at h; simp [mStrIt, strItems_eq, sizeN, hx, h, h1, h2, h1', h2']
    · have h2' : ¬ (x.length : Int) ≤ 8 := by omega
      have h1' : (2 : Int) ≤ x.length := by omega
      simp [sizeN, hx, h1, h2, h1', h2']
  · have h1' : ¬ (2 : Int) ≤ x.length := by omega
    simp [sizeN, hx, h1, h1']
end G

namespace G
open PySem Av
structure Tb where
  nm : Str
  pl : Int
  en : List (List Int)
def dT (t : Tb) : D := .tup [.str t.nm, .int t.pl, .tup (t.en.map dS)]
structure ShT (B : Nat) (t : Tb) : Prop where
  nl : t.nm.length ≤ B
  no : PyData.strOk t.nm = true
  el : t.en.length ≤ B
  es : ∀ e ∈ t.en, e.length ≤ B
@[simp] theorem imms_dS {es : List (List Int)} : D.imms (es.map dS) = true := imms_all.mpr fun d hd => by
  obtain ⟨e, _, rfl⟩ := List.mem_map.mp hd
  exact dS_imm
@[simp] theorem dT_imm {t : Tb} : (dT t).imm = true := by unfold dT; simp
@[simp] theorem imms_dT {ts : List Tb} : D.imms (ts.map dT) = true := imms_all.mpr fun d hd => by
  obtain ⟨e, _, rfl⟩ := List.mem_map.mp hd
  exact dT_imm
@[simp] theorem gLen_dS {xs : List Int} : gLen [dS xs] = some (.val (.int xs.length)) := by unfold dS; simp
def s234 (s : Int) : Prop := s = 2 ∨ s = 3 ∨ s = 4
def p03 (p : Int) : Prop := p = 0 ∨ p = 1 ∨ p = 2 ∨ p = 3
theorem count_eq {s p : Int} (hs : s234 s) (hp : p03 p) : m_row_count [.sh (.int s), .sh (.int p)] = .ok (.val (.int (s ^ p.toNat))) [] := by
  rcases hs with rfl | rfl | rfl <;> rcases hp with rfl | rfl | rfl | rfl <;> kernel_rfl
theorem law_count_eq {s p : Int} (hs : s234 s) (hp : p03 p) : m__law_count [.sh (.int s), .sh (.int p)] = .ok (.val (.int (s ^ p.toNat))) [] := by
  rcases hs with rfl | rfl | rfl <;> rcases hp with rfl | rfl | rfl | rfl <;> kernel_rfl
def rowsN (f : FR) (n : Nat) : Bool := match f with
  | .ok (.val (.lst ds)) [] => ds.length == n
  | .ok (.fresh (.lst ds)) [] => ds.length == n
  | _ => false
theorem rows_eq {s p : Int} (hs : s234 s) (hp : p03 p) : ∃ ds r, (r = .val (.lst ds) ∨ r = .fresh (.lst ds)) ∧ ds.length = (s ^ p.toNat).toNat ∧ m__law_rows [.sh (.int s), .sh (.int p)] = .ok r [] := by
  have h : rowsN (m__law_rows [.sh (.int s), .sh (.int p)]) (s ^ p.toNat).toNat = true := by
    rcases hs with rfl | rfl | rfl <;> rcases hp with rfl | rfl | rfl | rfl <;> decide +kernel
  generalize m__law_rows [.sh (.int s), .sh (.int p)] = f at h
  unfold rowsN at h
  split at h
  · rename_i ds; exact ⟨ds, _, .inl rfl, by simpa using h, rfl⟩
  · rename_i ds; exact ⟨ds, _, .inr rfl, by simpa using h, rfl⟩
  · cases h
def enOk (s : Int) (e : List Int) : Bool := !e.isEmpty && sgI s 0 e
theorem table_loop (s : Int) (a : List SV) (v : SV) (es : List (List Int)) (ha : a.length = 3) (hv : canPut (some v) = true) :
    ∃ sd, forGo (putSlot 4) b_is_table_1 ((es.map dS).map .val) (.sh (.int s) :: a ++ [v]) = if es.all (enOk s) then .nx sd else .ret (.val (.bl false)) sd := by
  match a, ha with
  | [a1, a2, a3], _ =>
  induction es generalizing v with
  | nil => exact ⟨_, rfl⟩
  | cons e ys ih =>
    rw [List.map_cons, List.map_cons, forGo_cons]
    have hs := sign_eq s e
    rw [List.all_cons]
    cases hg : enOk s e with
    | true =>
      obtain ⟨sd, h⟩ := ih (.sh (dS e)) rfl
      refine ⟨sd, ?_⟩
      rw [Bool.true_and, ← h]
      unfold enOk at hg
      rw [Bool.and_eq_true] at hg
      rw [hg.2] at hs
      conv => lhs; unfold b_is_table_1
      cases e with
      | nil => simp at hg
      | cons i is =>
        have : ¬ ((is.length : Int) + 1 = 0) := by omega
        simp [hv, hs, this]; rfl
    | false =>
      rw [Bool.false_and]
      unfold enOk at hg
      unfold b_is_table_1
      cases e with
      | nil => simp [hv]
      | cons i is =>
        have : ¬ ((is.length : Int) + 1 = 0) := by omega
        have hg : sgI s 0 (i :: is) = false := by simpa using hg
        rw [hg] at hs
        simp [hv, hs, this]
def tabOk (s p : Int) (es : List (List Int)) : Bool := decide (0 ≤ p) && decide (p ≤ 3) && decide (s ^ p.toNat ≤ 16) && decide ((es.length : Int) = s ^ p.toNat) && es.all (enOk s)
theorem is_table_eq (s p : Int) (es : List (List Int)) (hs : s234 s) : m_is_table [.sh (.int s), .sh (.int p), .sh (.tup (es.map dS))] = .ok (.val (.bl (tabOk s p es))) [] := by
  unfold m_is_table b_is_table tabOk
  by_cases h0 : 0 ≤ p
  · by_cases h3 : p ≤ 3
    · have hp : p03 p := by unfold p03; omega
      have hc := count_eq hs hp
      by_cases h16 : s ^ p.toNat ≤ 16
      · have h16' : ¬ (16 < s ^ p.toNat) := by omega
        by_cases hl : (es.length : Int) = s ^ p.toNat
        · obtain ⟨sd, h⟩ := table_loop s [.sh (.int p), .sh (.tup (es.map dS)), .sh (.int (s ^ p.toNat))] .no es rfl rfl
          simp only [List.cons_append, List.nil_append] at h
          cases e : es.all (enOk s) with
          | true => rw [e] at h; simp [-List.map_map, h0, h3, hc, h16, h16', hl, h]
          | false => rw [e] at h; simp [-List.map_map, h0, h3, hc, h16, h16', hl, h]
        · simp [h0, h3, hc, h16, h16', hl]
      · have h16' : 16 < s ^ p.toNat := by omega
        simp [h0, h3, hc, h16, h16']
    · simp [h0, h3]
  · simp [h0]
theorem okN_str' {n : Nat} {x : Str} : (D.str x).okN n = PyData.strOk x := by cases n <;> rfl
theorem okNs_strs {n : Nat} {ks : List Str} (h : ∀ k ∈ ks, PyData.strOk k = true) : D.okNs n (ks.map .str) = true := by
  induction ks with
  | nil => simp
  | cons k r ih => rw [List.map_cons, okNs_cons, okN_str', h k List.mem_cons_self, ih fun k hk => h k (List.mem_cons_of_mem _ hk)]; rfl
theorem any_strs {ks : List Str} {x : Str} : (ks.map D.str).any (fun y => y.eqv (.str x)) = ks.any (· == x) := by
  rw [List.any_map]
  rfl
theorem in_names {neg : Bool} {ks : List Str} {x : Str} (hx : PyData.strOk x = true) (h : ∀ k ∈ ks, PyData.strOk k = true) : gIn neg (.str x) (.lst (ks.map .str)) = some (.val (.bl (neg.xor (ks.any (· == x))))) := by
  show (if (D.str x).okN 64 && D.okNs 63 (ks.map .str) then some (RV.val (.bl (neg.xor ((ks.map D.str).any fun y => y.eqv (.str x))))) else none) = _
  rw [okN_str', hx, okNs_strs h, any_strs]
  rfl
def okTb (s : Int) (ks : List Str) (t : Tb) : Bool := decide (ks.length < 6) && !(ks.any (· == t.nm)) && nmOk t.nm && tabOk s t.pl t.en
def faultL (s : Int) : List Str → List Tb → Option Int
  | _, [] => none
  | ks, t :: ts => if okTb s ks t then faultL s (ks ++ [t.nm]) ts else some (2 + (ks.length : Int))
theorem fault_loop {B : Nat} (hB : B ≤ 100000) (s : Int) (hs : s234 s) (x y : SV) (ks : List Str) (v4 v5 v6 : SV) (ts : List Tb) (hsh : ∀ t ∈ ts, ShT B t) (hk : ∀ k ∈ ks, PyData.strOk k = true) (hl : ks.length ≤ 6)
    (h4 : canPut (some v4) = true) (h5 : canPut (some v5) = true) (h6 : canPut (some v6) = true) :
    ∃ sd, forGo (gTupT 3 (gsCons (putSlot 4) (gsCons (putSlot 5) (gsCons (putSlot 6) (gsNil))))) b_matrix_fault_1 ((ts.map dT).map .val) [.sh (.int s), x, y, .own (.lst (ks.map .str)), v4, v5, v6] = match faultL s ks ts with
      | none => .nx sd
      | some f => .ret (.val (.int f)) sd := by
  induction ts generalizing ks v4 v5 v6 with
  | nil => exact ⟨_, rfl⟩
  | cons t ts ih =>
    have ht := hsh t List.mem_cons_self
    have hn := is_name_eq t.nm (by have := ht.nl; omega)
    have htab := is_table_eq s t.pl t.en hs
    have hin := in_names (neg := false) ht.no hk
    rw [List.map_cons, List.map_cons, forGo_cons]
    unfold faultL
    cases ho : okTb s ks t with
    | true =>
      unfold okTb at ho
      rw [Bool.and_eq_true, Bool.and_eq_true, Bool.and_eq_true, decide_eq_true_eq, Bool.not_eq_true'] at ho
      obtain ⟨⟨⟨o1, o2⟩, o3⟩, o4⟩ := ho
      rw [o3] at hn; rw [o4] at htab; rw [o2] at hin
      obtain ⟨sd, h⟩ := ih (ks ++ [t.nm]) (.sh (.str t.nm)) (.sh (.int t.pl)) (.sh (.tup (t.en.map dS))) (fun t h => hsh t (List.mem_cons_of_mem _ h)) (fun k h => by
        rcases List.mem_append.mp h with h | h
        · exact hk k h
        · rw [List.mem_singleton.mp h]; exact ht.no) (by rw [List.length_append, List.length_singleton]; omega) rfl rfl rfl
      refine ⟨sd, ?_⟩
      rw [if_pos rfl, ← h]
      have l6 : ¬ ((ks.length : Int) = 6) := by omega
      have lz : ks.length < 16777216 := by omega
      conv => lhs; unfold b_matrix_fault_1
      simp [dT, h4, h5, h6, hn, htab, hin, l6, sizeN, lz]; rfl
    | false =>
      rw [if_neg (by simp)]
      unfold b_matrix_fault_1
      by_cases l6 : (ks.length : Int) = 6
      · simp [dT, h4, h5, h6, l6]
      · cases o2 : ks.any (· == t.nm) with
        | true => rw [o2] at hin; simp [dT, h4, h5, h6, hin, l6]
        | false =>
          rw [o2] at hin
          cases o3 : nmOk t.nm with
          | false => rw [o3] at hn; simp [dT, h4, h5, h6, hin, l6, hn]
          | true =>
            rw [o3] at hn
            have o4 : tabOk s t.pl t.en = false := by
              unfold okTb at ho
              rw [o2, o3] at ho
              have : decide (ks.length < 6) = true := decide_eq_true (by omega)
              rw [this] at ho
              simpa using ho
            rw [o4] at htab
            simp [dT, h4, h5, h6, hin, l6, hn, htab]
def faultD (s : Int) (de : List Int) (ts : List Tb) : Option Int :=
  if 2 ≤ s ∧ s ≤ 4 then if sgI s 0 de = true ∧ 0 < de.length ∧ (de.length : Int) < s then faultL s [] ts else some 1 else some 0
def optD : Option Int → D
  | none => .non
  | some f => .int f
theorem fault_eq {B : Nat} (hB : B ≤ 100000) (s : Int) (de : List Int) (ts : List Tb) (hsh : ∀ t ∈ ts, ShT B t) : m_matrix_fault [.sh (.int s), .sh (dS de), .sh (.tup (ts.map dT))] = .ok (.val (optD (faultD s de ts))) [] := by
  unfold m_matrix_fault b_matrix_fault faultD
  have hsg := sign_eq s de
  by_cases h0 : 2 ≤ s
  · by_cases h3 : s ≤ 4
    · have hs : s234 s := by unfold s234; omega
      rw [if_pos ⟨h0, h3⟩]
      cases hg : sgI s 0 de with
      | false => rw [hg] at hsg; simp [h0, h3, hsg, optD]
      | true =>
        rw [hg] at hsg
        by_cases h5 : 0 < de.length
        · have h5' : (0 : Int) < de.length := by omega
          by_cases h6 : (de.length : Int) < s
          · obtain ⟨sd, h⟩ := fault_loop hB s hs (.sh (dS de)) (.sh (.tup (ts.map dT))) [] .no .no .no ts hsh (fun k h => nomatch h) (by decide) rfl rfl rfl
            rw [List.map_nil] at h
            rw [if_pos ⟨rfl, h5, h6⟩]
            cases e : faultL s [] ts with
            | none => rw [e] at h; simp [-List.map_map, h0, h3, hsg, h5, h5', h6, h, optD, sizeN]
            | some f => rw [e] at h; simp [-List.map_map, h0, h3, hsg, h5, h5', h6, h, optD, sizeN]
          · rw [if_neg (fun z => h6 z.2.2)]; simp [h0, h3, hsg, h5, h5', h6, optD]
        · have h5' : ¬ (0 : Int) < de.length := by omega
          rw [if_neg (fun z => h5 z.2.1)]; simp [h0, h3, hsg, h5, h5', optD]
    · rw [if_neg (fun z => h3 z.2)]; simp [h0, h3, optD]
  · rw [if_neg (fun z => h0 z.1)]; simp [h0, optD]
end G

namespace G
open PySem Av
theorem bor_map {xs : List D} (h : D.imms xs = true) : xs.map (fun d => if d.imm then RV.val d else .bval d) = xs.map .val := by
  apply List.map_congr_left
  intro d hd
  rw [if_pos (imms_all.mp h d hd)]
/-- a slot that holds a list that is shared or lent -/
def lent (q : D → SV) : Prop := q = .sh ∨ q = .bor
/-- the first table with an entry of several values -/
def looseE : List (List Int) → Bool
  | [] => false
  | e :: es => if 1 < e.length then true else looseE es
def looseL : List Tb → Option Str
  | [] => none
  | t :: ts => if looseE t.en then some t.nm else looseL ts
theorem loose_in (x : SV) (nm : Str) (z w v : SV) (es : List (List Int)) (hv : canPut (some v) = true) : ∃ v' , canPut (some v') = true ∧ forGo (putSlot 4) b_loose_table_1 ((es.map dS).map .val) [x, .sh (.str nm), z, w, v] = if looseE es then .ret (.val (.str nm)) [x, .sh (.str nm), z, w, v'] else .nx [x, .sh (.str nm), z, w, v'] := by
  induction es generalizing v with
  | nil => exact ⟨v, hv, rfl⟩
  | cons e es ih =>
    rw [List.map_cons, List.map_cons, forGo_cons]
    unfold looseE
    by_cases h : 1 < e.length
    · have h' : (1 : Int) < e.length := by omega
      rw [if_pos h]
      refine ⟨.sh (dS e), rfl, ?_⟩
      unfold b_loose_table_1
      simp [hv, h']
    · have h' : ¬ (1 : Int) < e.length := by omega
      rw [if_neg h]
      obtain ⟨v', q, r⟩ := ih (.sh (dS e)) rfl
      refine ⟨v', q, ?_⟩
      rw [← r]
      conv => lhs; unfold b_loose_table_1
      simp [hv, h']; rfl
def optS : Option Str → D
  | none => .non
  | some f => .str f
theorem loose_loop (x v1 v2 v3 v4 : SV) (ts : List Tb) (h1 : canPut (some v1) = true) (h2 : canPut (some v2) = true) (h3 : canPut (some v3) = true) (h4 : canPut (some v4) = true) :
    ∃ sd, forGo (gTupT 3 (gsCons (putSlot 1) (gsCons (putSlot 2) (gsCons (putSlot 3) (gsNil))))) b_loose_table_2 ((ts.map dT).map .val) [x, v1, v2, v3, v4] = match looseL ts with
      | none => .nx sd
      | some f => .ret (.val (.str f)) sd := by
  induction ts generalizing v1 v2 v3 v4 with
  | nil => exact ⟨_, rfl⟩
  | cons t ts ih =>
    obtain ⟨v', q, r⟩ := loose_in x t.nm (.sh (.int t.pl)) (.sh (.tup (t.en.map dS))) v4 t.en h4
    rw [List.map_cons, List.map_cons, forGo_cons]
    unfold looseL
    have eg : gTupT 3 (gsCons (putSlot 1) (gsCons (putSlot 2) (gsCons (putSlot 3) (gsNil)))) (.val (dT t)) [x, v1, v2, v3, v4] = some [x, .sh (.str t.nm), .sh (.int t.pl), .sh (.tup (t.en.map dS)), v4] := by
      simp [dT, h1, h2, h3]
    have eb : b_loose_table_2 [x, .sh (.str t.nm), .sh (.int t.pl), .sh (.tup (t.en.map dS)), v4] = if looseE t.en then .ret (.val (.str t.nm)) [x, .sh (.str t.nm), .sh (.int t.pl), .sh (.tup (t.en.map dS)), v'] else .nx [x, .sh (.str t.nm), .sh (.int t.pl), .sh (.tup (t.en.map dS)), v'] := by
      rw [← r]
      unfold b_loose_table_2
      simp [-List.map_map]
    rw [eg, putB_some, eb]
    cases hl : looseE t.en with
    | true => rw [if_pos rfl, if_pos rfl, loopR_ret]; exact ⟨_, rfl⟩
    | false => rw [if_neg (by simp), if_neg (by simp), loopR_nx]; exact ih _ _ _ _ rfl rfl rfl q
theorem loose_eq (ts : List Tb) : m_loose_table [.sh (.tup (ts.map dT))] = .ok (.val (optS (looseL ts))) [] := by
  unfold m_loose_table b_loose_table
  obtain ⟨sd, h⟩ := loose_loop (.sh (.tup (ts.map dT))) .no .no .no .no ts rfl rfl rfl rfl
  cases e : looseL ts with
  | none => rw [e] at h; simp [-List.map_map, h, optS]
  | some f => rw [e] at h; simp [-List.map_map, h, optS]
def tr (ts : List Tb) : List (Str × D × D) := ts.map fun t => (t.nm, .int t.pl, .tup (t.en.map dS))
theorem triples_eq (ts : List Tb) : triples (ts.map dT) = some (tr ts) := by
  induction ts with
  | nil => rfl
  | cons t ts ih =>
    rw [List.map_cons]
    show (triples (ts.map dT)).map _ = _
    rw [ih]
    rfl
def nmD (t : Tb) : D := .str t.nm
def fs5 (s : Int) (de : List Int) (ts : List Tb) : List (Str × D) := [(("size" : Str), .int s), (("designated" : Str), dS de), (("tables" : Str), .tup (ts.map dT)), (("names" : Str), .tup (ts.map nmD)), (("loose" : Str), optS (looseL ts))]
def fs7 (s : Int) (de : List Int) (ts : List Tb) : List (Str × D) := fs5 s de ts ++ [(("_places" : Str), .dic false (fill1 [] (tr ts))), (("_entries" : Str), .dic false (fill2 [] (tr ts)))]
def matD (s : Int) (de : List Int) (ts : List Tb) : D := .obj "Matrix" (fs7 s de ts)
theorem fl1 : clFl.contains ("Matrix", "size") = true := by decide +kernel
theorem fl2 : clFl.contains ("Matrix", "designated") = true := by decide +kernel
theorem fl3 : clFl.contains ("Matrix", "tables") = true := by decide +kernel
theorem fl4 : clFl.contains ("Matrix", "names") = true := by decide +kernel
theorem fl5 : clFl.contains ("Matrix", "loose") = true := by decide +kernel
theorem fl6 : clFl.contains ("Matrix", "_places") = true := by decide +kernel
theorem fl7 : clFl.contains ("Matrix", "_entries") = true := by decide +kernel
theorem fm1 : ((("Matrix" : Str), ("size" : Str)) ∈ clFl) := List.contains_iff_mem.mp fl1
theorem fm2 : ((("Matrix" : Str), ("designated" : Str)) ∈ clFl) := List.contains_iff_mem.mp fl2
theorem fm3 : ((("Matrix" : Str), ("tables" : Str)) ∈ clFl) := List.contains_iff_mem.mp fl3
theorem fm4 : ((("Matrix" : Str), ("names" : Str)) ∈ clFl) := List.contains_iff_mem.mp fl4
theorem fm5 : ((("Matrix" : Str), ("loose" : Str)) ∈ clFl) := List.contains_iff_mem.mp fl5
theorem pf1 (d : D) : dPutF "size" d [] = [(("size" : Str), d)] := rfl
theorem pf2 (d a : D) : dPutF "designated" d [(("size" : Str), a)] = [(("size" : Str), a), (("designated" : Str), d)] := by kernel_rfl
theorem pf3 (d a b : D) : dPutF "tables" d [(("size" : Str), a), (("designated" : Str), b)] = [(("size" : Str), a), (("designated" : Str), b), (("tables" : Str), d)] := by kernel_rfl
theorem pf4 (d a b c : D) : dPutF "names" d [(("size" : Str), a), (("designated" : Str), b), (("tables" : Str), c)] = [(("size" : Str), a), (("designated" : Str), b), (("tables" : Str), c), (("names" : Str), d)] := by kernel_rfl
theorem pf5 (d a b c e : D) : dPutF "loose" d [(("size" : Str), a), (("designated" : Str), b), (("tables" : Str), c), (("names" : Str), e)] = [(("size" : Str), a), (("designated" : Str), b), (("tables" : Str), c), (("names" : Str), e), (("loose" : Str), d)] := by kernel_rfl
theorem pf7 (s : Int) (de : List Int) (ts : List Tb) (x y : D) : dPutF "_entries" y (dPutF "_places" x (fs5 s de ts)) = fs5 s de ts ++ [(("_places" : Str), x), (("_entries" : Str), y)] := by
  unfold fs5
  kernel_rfl
theorem names_comp (a v4 v5 v6 v7 v8 : SV) (s : Int) (de : List Int) (ts : List Tb) (hl : ts.length ≤ 100000) : mComp [8] (mSeqIt (mVar 3)) (putSlot 8) (mPure true) (mIx (mVar 8) (mC (.int 0))) [a, .sh (.int s), .sh (dS de), .sh (.tup (ts.map dT)), v4, v5, v6, v7, v8] =
    .ok (.fresh (.lst (ts.map nmD))) [a, .sh (.int s), .sh (dS de), .sh (.tup (ts.map dT)), v4, v5, v6, v7, .no] := by
  have h := comp_map (vs := [8]) (g := putSlot 8) (mt := mPure true) (me := mIx (mVar 8) (mC (.int 0))) (B := [a, .sh (.int s), .sh (dS de), .sh (.tup (ts.map dT)), v4, v5, v6, v7, .no])
    (fun r => match r with | .val (.tup (d :: _)) => d | _ => .non) ((ts.map dT).map .val) [] [a, .sh (.int s), .sh (dS de), .sh (.tup (ts.map dT)), v4, v5, v6, v7, v8] rfl (by rw [sizeN]; simp; omega) (fun r hr => by
      obtain ⟨d, hd, rfl⟩ := List.mem_map.mp hr
      obtain ⟨t, ht, rfl⟩ := List.mem_map.mp hd
      refine ⟨[a, .sh (.int s), .sh (dS de), .sh (.tup (ts.map dT)), v4, v5, v6, v7, .sh (dT t)], _, [a, .sh (.int s), .sh (dS de), .sh (.tup (ts.map dT)), v4, v5, v6, v7, .sh (dT t)], ?_, rfl, ?_, rfl⟩
      · simp
      · simp [dT, L2.atI, L2.ixN])
  have e : ((ts.map dT).map RV.val).map (fun r => match r with | .val (.tup (d :: _)) => d | _ => .non) = ts.map nmD := by
    rw [List.map_map, List.map_map]
    rfl
  rw [e] at h
  simp [-List.map_map, h]
theorem init_none {B : Nat} (hB : B ≤ 100000) (s : Int) (de : List Int) (ts : List Tb) (hsh : ∀ t ∈ ts, ShT B t) (hl : ts.length ≤ 100000) (hf : faultD s de ts = none) :
    m_Matrix___init__ [.io (.obj "Matrix" []), .sh (.int s), .sh (dS de), .sh (.tup (ts.map dT))] = .ok (.val .non) [matD s de ts] := by
  unfold m_Matrix___init__ b_Matrix___init__
  have h1 := fault_eq hB s de ts hsh
  rw [hf] at h1
  have h2 := loose_eq ts
  have imN : D.imms (ts.map nmD) = true := imms_all.mpr fun d hd => by
    obtain ⟨e, _, rfl⟩ := List.mem_map.mp hd
    rfl
  have imO : (optS (looseL ts)).imm = true := by cases looseL ts <;> rfl
  have hlt : (tr ts).length < 16777216 := by unfold tr; simp; omega
  have hfill : ∀ v8, mFill clFl "_places" "_entries" 0 3 [5, 6, 7] [.io (.obj "Matrix" (fs5 s de ts)), .sh (.int s), .sh (dS de), .sh (.tup (ts.map dT)), .sh .non, .no, .no, .no, v8] = .nx [.io (matD s de ts), .sh (.int s), .sh (dS de), .sh (.tup (ts.map dT)), .sh .non, .no, .no, .no, v8] := fun v8 => by
    unfold mFill
    simp only [mOwn_eq, List.getElem?_cons_zero, Option.getD_some, owS_io, List.getElem?_cons_succ]
    dsimp only [obj?_obj]
    rw [triples_eq]
    have hne : decide (("_places" : Str) ≠ "_entries") = true := by decide +kernel
    have hl5 : decide ((fs5 s de ts).length < 998) = true := rfl
    have htl : decide ((tr ts).length < sizeLine) = true := by rw [sizeN]; exact decide_eq_true hlt
    dsimp only
    rw [fl6, fl7, hl5, htl, hne]
    simp only [List.contains_cons, List.all_cons]
    simp [pf7]
    unfold matD fs7
    rfl
  simp [-mComp_eq, h1, h2, names_comp, hl, optD, fm1, fm2, fm3, fm4, fm5, pf1, pf2, pf3, pf4, pf5, imN, imO]
  unfold fs5 at hfill
  simp [hfill]
theorem init_exc {B : Nat} (hB : B ≤ 100000) (s : Int) (de : List Int) (ts : List Tb) (hsh : ∀ t ∈ ts, ShT B t) (f : Int) (hf : faultD s de ts = some f) :
    m_Matrix___init__ [.io (.obj "Matrix" []), .sh (.int s), .sh (dS de), .sh (.tup (ts.map dT))] = .exc ⟨"BadMatrix", [("place", .int f)]⟩ [.obj "Matrix" []] := by
  unfold m_Matrix___init__ b_Matrix___init__
  have h1 := fault_eq hB s de ts hsh
  rw [hf] at h1
  simp [h1, optD]
/-- data for _law_exact, nested less than n deep -/
def pl : Nat → D → Bool
  | 0, _ => false
  | _ + 1, .non => true
  | _ + 1, .bl _ => true
  | _ + 1, .int _ => true
  | _ + 1, .str x => PyData.strOk x
  | n + 1, .tup xs => decide (xs.length ≤ 1000000) && xs.all (pl n)
  | _ + 1, _ => false
theorem pl_imm : ∀ (n : Nat) (d : D), pl n d = true → d.imm = true
  | 0, d, h => by cases h
  | n + 1, d, h => by
    cases d with
    | tup xs =>
      unfold pl at h
      rw [Bool.and_eq_true, List.all_eq_true] at h
      rw [imm_tup]
      exact imms_all.mpr fun x hx => pl_imm n x (h.2 x hx)
    | non => rfl
    | bl b => rfl
    | int i => rfl
    | str x => rfl
    | _ => cases h
theorem exact_refl (n : Nat) : ∀ (d : D), pl n d = true → r__law_exact n [.sh d, .sh d] = .ok (.val (.bl true)) [] := by
  induction n with
  | zero => intro d h; cases h
  | succ n ihn =>
    intro d h
    show mDef 2 3 [] (b__law_exact (r__law_exact n)) [.sh d, .sh d] = _
    unfold b__law_exact
    cases d with
    | non => simp
    | bl b => simp
    | int i => simp
    | str x =>
      have h : PyData.strOk x = true := h
      have e : gEq (.str x) (.str x) = some (.val (.bl true)) := by
        unfold gEq
        rw [show (D.str x).okN 64 = PyData.strOk x from rfl, h]
        simp [D.eqv]
      have i1 : isaD "str" (.str x) = some true := rfl
      have i2 : isaD "bool" (.str x) = some false := rfl
      have i3 : D.isNon (.str x) = false := rfl
      simp [e, i1, i2, i3]
    | tup xs =>
      unfold pl at h
      rw [Bool.and_eq_true, List.all_eq_true, decide_eq_true_eq] at h
      have hr : rangeOk (xs.length : Int) = true := rangeOk_small (by omega) (by omega)
      obtain ⟨sd', e, v, hv, rfl⟩ := for_range (g := putSlot 2) (b := b__law_exact_1 (r__law_exact n)) (lo := 0) (n := xs.length) (fun i sd => ∃ v, canPut (some v) = true ∧ sd = [.sh (.tup xs), .sh (.tup xs), v]) [.sh (.tup xs), .sh (.tup xs), .no] ⟨.no, rfl, rfl⟩
        (fun i sd hi ⟨v, hv, hsd⟩ => by
          subst hsd
          have hx := h.2 xs[i] (List.getElem_mem hi)
          have ih := ihn xs[i] hx
          refine ⟨[.sh (.tup xs), .sh (.tup xs), .sh (.int i)], ?_, .sh (.int i), rfl, rfl⟩
          unfold b__law_exact_1
          simp -implicitDefEqProofs [hv, L2.atI, L2.ixN, hi, ih])
      simp -implicitDefEqProofs [hr, e]
    | _ => cases h
end G

namespace G
open PySem Av
theorem sg_snoc {s k i : Int} {xs : List Int} (h : sgI s k xs = true) (hx : ∀ x ∈ xs, x < i) (hk : k ≤ i) (hi : i < s) : sgI s k (xs ++ [i]) = true := by
  induction xs generalizing k with
  | nil => simp [sgI, hk, hi]
  | cons x xs ih =>
    rw [List.cons_append]
    unfold sgI at h ⊢
    rw [Bool.and_eq_true] at h
    rw [Bool.and_eq_true]
    exact ⟨h.1, ih h.2 (fun y hy => hx y (List.mem_cons_of_mem _ hy)) (by have := hx x List.mem_cons_self; omega)⟩
theorem drawn_sign {st : D} (hs : Str3 st) (n : Nat) (hn : 0 < n ∧ n ≤ 4) : ∃ sg st', Str3 st' ∧ sgI n 0 sg = true ∧ 0 < sg.length ∧ sg.length ≤ 4 ∧ m__law_sign [.io st, .sh (.int n), .sh (.int 1)] = .ok (.val (dS sg)) [st'] := by
  have h := for_range (g := putSlot 4) (b := b__law_sign_1) (lo := 0) (n := n)
    (fun i sd => ∃ st sg v, Str3 st ∧ canPut (some v) = true ∧ sg.length ≤ i ∧ sgI n 0 sg = true ∧ (∀ x ∈ sg, x < (i : Int)) ∧ sd = [.io st, .sh (.int n), .sh (.int 1), .sh (dS sg), v])
    [.io st, .sh (.int n), .sh (.int 1), .sh (dS []), .no] ⟨st, [], .no, hs, rfl, Nat.le_refl _, rfl, (fun x hx => nomatch hx), rfl⟩
    (fun i sd hi ⟨st, sg, v, h1, hv, h2, h3, h5, h4⟩ => by
      subst h4
      obtain ⟨d, st', s1, d0, d1, e⟩ := next_eq h1 2 (by omega) (by omega)
      have hl : sg.length + 1 ≤ 16777216 := by omega
      by_cases hd : d = 1
      · refine ⟨[.io st', .sh (.int n), .sh (.int 1), .sh (dS (sg ++ [(i : Int)])), .sh (.int i)], ?_, st', sg ++ [(i : Int)], .sh (.int (i : Int)), s1, rfl, ?_, ?_, ?_, rfl⟩
        · unfold b__law_sign_1
          simp [hv, e, hd, sizeN, hl, dS]
        · simp; exact h2
        · exact sg_snoc h3 h5 (by omega) (by omega)
        · intro x hx
          rcases List.mem_append.mp hx with hx | hx
          · have := h5 x hx; omega
          · simp at hx; subst hx; omega
      · refine ⟨[.io st', .sh (.int n), .sh (.int 1), .sh (dS sg), .sh (.int i)], ?_, st', sg, _, s1, rfl, by omega, h3, (fun x hx => by have := h5 x hx; omega), rfl⟩
        unfold b__law_sign_1
        simp [hv, e, hd])
  obtain ⟨sd', e, st, sg, v, h1, hv, h2, h3, h5, rfl⟩ := h
  have hr : rangeOk (n : Int) = true := rangeOk_small (by omega) (by omega)
  unfold m__law_sign b__law_sign
  by_cases h0 : sg.length = 0
  · obtain ⟨d, st', s1, d0, d1, e2⟩ := next_eq h1 (n : Int) (by omega) (by omega)
    have : (sg.length : Int) < 1 := by omega
    refine ⟨[d], st', s1, by simp [sgI, d0, d1], by simp, by simp, ?_⟩
    unfold dS at e ⊢
    rw [List.map_nil] at e
    simp -implicitDefEqProofs [hr, e, sizeN, this, e2, hv]
  · have : ¬ ((sg.length : Int) < 1) := by omega
    refine ⟨sg, st, h1, h3, by omega, by omega, ?_⟩
    unfold dS at e ⊢
    rw [List.map_nil] at e
    simp -implicitDefEqProofs [hr, e, sizeN, this]
/-! all signs -/
def signsL (n : Nat) : List (Str × List Int) := ((List.range n).foldl (fun (acc : List (Str × List Int)) (v : Nat) => acc ++ acc.map fun p => (p.1 ++ ⟨#[48 + v]⟩, p.2 ++ [(v : Int)])) [(("" : Str), [])]).tail
def sgD (p : Str × List Int) : D := .tup [.str p.1, dS p.2]
theorem signs2 : m__law_signs [.sh (.int 2)] = .ok (.fresh (.lst ((signsL 2).map sgD))) [] := by kernel_rfl
theorem signs3 : m__law_signs [.sh (.int 3)] = .ok (.fresh (.lst ((signsL 3).map sgD))) [] := by kernel_rfl
theorem signs4 : m__law_signs [.sh (.int 4)] = .ok (.fresh (.lst ((signsL 4).map sgD))) [] := by kernel_rfl
theorem signs_ok {s : Int} (hs : s234 s) : ∃ es : List (Str × List Int), m__law_signs [.sh (.int s)] = .ok (.fresh (.lst (es.map sgD))) [] ∧ 0 < es.length ∧ es.length ≤ 15 ∧ ∀ p ∈ es, enOk s p.2 = true ∧ p.2.length ≤ 4 := by
  have q : ∀ n : Nat, ((signsL n).all fun p => enOk (n : Int) p.2 && decide (p.2.length ≤ 4)) = true → ∀ p ∈ signsL n, enOk (n : Int) p.2 = true ∧ p.2.length ≤ 4 := fun n h p hp => by
    have := List.all_eq_true.mp h p hp
    rw [Bool.and_eq_true, decide_eq_true_eq] at this
    exact this
  rcases hs with rfl | rfl | rfl
  · exact ⟨signsL 2, signs2, by decide +kernel, by decide +kernel, q 2 (by decide +kernel)⟩
  · exact ⟨signsL 3, signs3, by decide +kernel, by decide +kernel, q 3 (by decide +kernel)⟩
  · exact ⟨signsL 4, signs4, by decide +kernel, by decide +kernel, q 4 (by decide +kernel)⟩
/-! names -/
def abcL : List Nat := [97,98,99,100,101,102,103,104,105,106,107,108,109,110,111,112,113,114,115,116,117,118,119,120,121,122]
theorem atI_at {α : Type} {xs : List α} {k : Nat} (h : k < xs.length) : L2.atI xs (k : Int) = some xs[k] := by
  simp [L2.atI, L2.ixN, h]
theorem abc_at {d : Int} (h0 : 0 ≤ d) (h1 : d < 26) : ∃ c, L2.atI ("abcdefghijklmnopqrstuvwxyz" : Str).cps.toList d = some c ∧ letter c = true := by
  obtain ⟨k, rfl⟩ := Int.eq_ofNat_of_zero_le h0
  rw [cps_abc]
  have hk : k < abcL.length := by show k < 26; omega
  refine ⟨abcL[k], atI_at hk, ?_⟩
  have : abcL.all letter = true := by decide +kernel
  exact List.all_eq_true.mp this _ (List.getElem_mem hk)
theorem ix_str {z : Str} {k : Int} {r : RV} {sd : List SV} : mIx2 r (.str z) (.int k) sd = mGet (if z.length ≤ sizeLine then (L2.atI z.cps.toList k).map fun c => RV.val (.str ⟨#[c]⟩) else none) sd := rfl
theorem len_append (x y : Str) : (x ++ y).length = x.length + y.length := by
  show (x.cps ++ y.cps).size = _
  rw [Array.size_append]; rfl
theorem toL_append (x y : Str) : (x ++ y).cps.toList = x.cps.toList ++ y.cps.toList := by
  show (x.cps ++ y.cps).toList = _
  simp
theorem name_eq {st : D} (hs : Str3 st) : ∃ nm st', Str3 st' ∧ nmOk nm = true ∧ m__law_name [.io st] = .ok (.val (.str nm)) [st'] := by
  obtain ⟨d, st1, s1, d0, d1, e0⟩ := next_eq hs 7 (by omega) (by omega)
  obtain ⟨m, rfl⟩ := Int.eq_ofNat_of_zero_le d0
  have h := for_range (g := putSlot 2) (b := b__law_name_1) (lo := 0) (n := 2 + m)
    (fun i sd => ∃ st nm v, Str3 st ∧ canPut (some v) = true ∧ nm.length = i ∧ nm.cps.toList.all letter = true ∧ sd = [.io st, .sh (.str nm), v])
    [.io st1, .sh (.str ""), .no] ⟨st1, "", .no, s1, rfl, by decide +kernel, by decide +kernel, rfl⟩
    (fun i sd hi ⟨st, nm, v, h1, hv, h2, h3, h4⟩ => by
      subst h4
      obtain ⟨d, st', s1, d0, d1, e⟩ := next_eq h1 26 (by omega) (by omega)
      obtain ⟨c, hc, hl⟩ := abc_at d0 d1
      have z26 : ("abcdefghijklmnopqrstuvwxyz" : Str).length ≤ 16777216 := by decide +kernel
      have hlen : nm.length + (⟨#[c]⟩ : Str).length ≤ 16777216 := by show nm.length + 1 ≤ _; omega
      refine ⟨[.io st', .sh (.str (nm ++ ⟨#[c]⟩)), .sh (.int i)], ?_, st', nm ++ ⟨#[c]⟩, .sh (.int i), s1, rfl, ?_, ?_, rfl⟩
      · unfold b__law_name_1
        simp [hv, e, ix_str, z26, hc, sizeN, hlen]
      · rw [len_append, h2]; rfl
      · rw [toL_append, List.all_append, h3]
        simp [hl])
  obtain ⟨sd', e, st', nm, v, h1, hv, h2, h3, rfl⟩ := h
  refine ⟨nm, st', h1, ?_, ?_⟩
  · unfold nmOk
    rw [h3, decide_eq_true (show 2 ≤ nm.length by omega), decide_eq_true (show nm.length ≤ 8 by omega)]
    rfl
  · have hr : rangeOk (2 + (m : Int)) = true := rangeOk_small (by omega) (by omega)
    have ht : (2 + (m : Int)).toNat = 2 + m := by omega
    unfold m__law_name b__law_name
    simp -implicitDefEqProofs [e0, hr, ht, e]
theorem nmOk_str {nm : Str} (h : nmOk nm = true) : PyData.strOk nm = true ∧ nm.length ≤ 8 := by
  unfold nmOk at h
  rw [Bool.and_eq_true, Bool.and_eq_true, decide_eq_true_eq, decide_eq_true_eq, List.all_eq_true] at h
  refine ⟨?_, h.1.2⟩
  show nm.cps.all (· < 0x110000) = true
  rw [Array.all_eq_true']
  intro c hc
  have := h.2 c (by simpa using hc)
  unfold letter at this
  simp at this
  simp
  omega
theorem fault_snoc {s : Int} {t : Tb} : ∀ {ts : List Tb} {ks : List Str}, faultL s ks ts = none → okTb s (ks ++ ts.map (·.nm)) t = true → faultL s ks (ts ++ [t]) = none
  | [], ks, h, ho => by
    rw [List.map_nil, List.append_nil] at ho
    show (if okTb s ks t then faultL s (ks ++ [t.nm]) [] else _) = none
    rw [if_pos ho]; rfl
  | u :: ts, ks, h, ho => by
    have h : (if okTb s ks u then faultL s (ks ++ [u.nm]) ts else some (2 + (ks.length : Int))) = none := h
    show (if okTb s ks u then faultL s (ks ++ [u.nm]) (ts ++ [t]) else some (2 + (ks.length : Int))) = none
    split at h
    · rename_i hu
      rw [if_pos hu]
      exact fault_snoc h (by rw [List.append_assoc]; exact ho)
    · cases h
structure Base (s : Int) (ts : List Tb) : Prop where
  ok : faultL s [] ts = none
  sh : ∀ t ∈ ts, ShT 16 t
theorem names_str (ts : List Tb) : ts.map nmD = (ts.map (·.nm)).map D.str := by rw [List.map_map]; rfl
theorem compA_eq (a0 a1 a2 a3 a5 a6 a7 a8 a9 v : SV) (ts : List Tb) (hl : ts.length ≤ 100000) : mCompA 4 [10] (putSlot 10) (mPure true) (mIx (mVar 10) (mC (.int 0))) [a0, a1, a2, a3, .own (.lst (ts.map dT)), a5, a6, a7, a8, a9, v] = .ok (.fresh (.lst (ts.map nmD))) [a0, a1, a2, a3, .own (.lst (ts.map dT)), a5, a6, a7, a8, a9, .no] := by
  have h := comp_map (vs := [10]) (g := putSlot 10) (mt := mPure true) (me := mIx (mVar 10) (mC (.int 0))) (B := [a0, a1, a2, a3, .no, a5, a6, a7, a8, a9, .no])
    (fun r => match r with | .val (.tup (d :: _)) => d | _ => .non) ((ts.map dT).map .val) [] [a0, a1, a2, a3, .no, a5, a6, a7, a8, a9, v] rfl (by rw [sizeN]; simp; omega) (fun r hr => by
      obtain ⟨d, hd, rfl⟩ := List.mem_map.mp hr
      obtain ⟨t, ht, rfl⟩ := List.mem_map.mp hd
      refine ⟨[a0, a1, a2, a3, .no, a5, a6, a7, a8, a9, .sh (dT t)], _, [a0, a1, a2, a3, .no, a5, a6, a7, a8, a9, .sh (dT t)], ?_, rfl, ?_, rfl⟩
      · simp
      · simp [dT, L2.atI, L2.ixN])
  have e : ((ts.map dT).map RV.val).map (fun r => match r with | .val (.tup (d :: _)) => d | _ => .non) = ts.map nmD := by
    rw [List.map_map, List.map_map]
    rfl
  rw [e] at h
  show (match compGo [10] (putSlot 10) (mPure true) (mIx (mVar 10) (mC (.int 0))) ((ts.map dT).map .val) [] [a0, a1, a2, a3, .no, a5, a6, a7, a8, a9, v] with
    | .ok (.fresh d) sd1 => R.ok (RV.fresh d) (sd1.set 4 (.own (.lst (ts.map dT))))
    | _ => .fail) = _
  rw [h]
  rfl
theorem ents_eq {st : D} (hs : Str3 st) {s : Int} (h234 : s234 s) (b : Bool) (es0 : List (Str × List Int)) (h1 : 0 < es0.length ∧ es0.length ≤ 15) (h2 : ∀ p ∈ es0, enOk s p.2 = true ∧ p.2.length ≤ 4) (n : Nat) (hn : n ≤ 16) (a4 a5 a6 a7 v9 a10 : SV) (hv : canPut (some v9) = true) :
    ∃ (st' : D) (es : List (List Int)) (w9 : SV), Str3 st' ∧ canPut (some w9) = true ∧ es.length = n ∧ (∀ e ∈ es, enOk s e = true ∧ e.length ≤ 4) ∧ forGo (putSlot 9) b__law_tables_1 (rangeItems 0 n) [.io st, .sh (.int s), .sh (.bl b), .own (.lst (es0.map sgD)), a4, a5, a6, a7, .own (.lst []), v9, a10] =
      .nx [.io st', .sh (.int s), .sh (.bl b), .own (.lst (es0.map sgD)), a4, a5, a6, a7, .own (.lst (es.map dS)), w9, a10] := by
  have h := for_range (g := putSlot 9) (b := b__law_tables_1) (lo := 0) (n := n)
    (fun i sd => ∃ (st : D) (es : List (List Int)) (w9 : SV), Str3 st ∧ canPut (some w9) = true ∧ es.length = i ∧ (∀ e ∈ es, enOk s e = true ∧ e.length ≤ 4) ∧ sd = [.io st, .sh (.int s), .sh (.bl b), .own (.lst (es0.map sgD)), a4, a5, a6, a7, .own (.lst (es.map dS)), w9, a10])
    [.io st, .sh (.int s), .sh (.bl b), .own (.lst (es0.map sgD)), a4, a5, a6, a7, .own (.lst []), v9, a10] ⟨st, [], v9, hs, hv, rfl, (fun x hx => nomatch hx), rfl⟩
    (fun i sd hi ⟨st, es, w9, q1, q2, q3, q4, q5⟩ => by
      subst q5
      have hlt : es.length < 16777216 := by omega
      have hs0 : 0 < s ∧ s < 1073741824 := by rcases h234 with h | h | h <;> omega
      cases b with
      | true =>
        obtain ⟨d, st', s1, d0, d1, e⟩ := next_eq q1 s hs0.1 hs0.2
        refine ⟨[.io st', .sh (.int s), .sh (.bl true), .own (.lst (es0.map sgD)), a4, a5, a6, a7, .own (.lst ((es ++ [[d]]).map dS)), .sh (.int i), a10], ?_, st', es ++ [[d]], .sh (.int i), s1, rfl, by simp [q3], fun x hx => ?_, rfl⟩
        · unfold b__law_tables_1
          simp [q2, e, sizeN, hlt, dS]
        · rcases List.mem_append.mp hx with hx | hx
          · exact q4 x hx
          · rw [List.mem_singleton.mp hx]
            exact ⟨by simp [enOk, sgI, d0, d1], by simp⟩
      | false =>
        obtain ⟨d, st', s1, d0, d1, e⟩ := next_eq q1 (es0.length : Int) (by omega) (by omega)
        obtain ⟨k, rfl⟩ := Int.eq_ofNat_of_zero_le d0
        have hk : k < es0.length := by omega
        have hat : L2.atI (es0.map sgD) (k : Int) = some (sgD es0[k]) := by
          have := atI_at (xs := es0.map sgD) (k := k) (by simpa using hk)
          rw [this]; simp
        refine ⟨[.io st', .sh (.int s), .sh (.bl false), .own (.lst (es0.map sgD)), a4, a5, a6, a7, .own (.lst ((es ++ [es0[k].2]).map dS)), .sh (.int i), a10], ?_, st', es ++ [es0[k].2], .sh (.int i), s1, rfl, by simp [q3], fun x hx => ?_, rfl⟩
        · unfold b__law_tables_1
          have h1' : L2.atI [D.str es0[k].1, dS es0[k].2] 1 = some (dS es0[k].2) := rfl
          simp [q2, e, sizeN, hlt, hat]
          unfold sgD
          simp [h1', hlt, sizeN]
        · rcases List.mem_append.mp hx with hx | hx
          · exact q4 x hx
          · rw [List.mem_singleton.mp hx]
            exact h2 _ (List.getElem_mem hk))
  obtain ⟨sd', e, st', es, w9, q1, q2, q3, q4, rfl⟩ := h
  exact ⟨st', es, w9, q1, q2, q3, q4, e⟩
theorem places_at {d : Int} (h0 : 0 ≤ d) (h1 : d < 6) : ∃ p, p03 p ∧ L2.atI ([.int 2, .int 1, .int 0, .int 2, .int 3, .int 2] : List D) d = some (.int p) := by
  have : d = 0 ∨ d = 1 ∨ d = 2 ∨ d = 3 ∨ d = 4 ∨ d = 5 := by omega
  rcases this with rfl | rfl | rfl | rfl | rfl | rfl
  · exact ⟨2, by unfold p03; omega, rfl⟩
  · exact ⟨1, by unfold p03; omega, rfl⟩
  · exact ⟨0, by unfold p03; omega, rfl⟩
  · exact ⟨2, by unfold p03; omega, rfl⟩
  · exact ⟨3, by unfold p03; omega, rfl⟩
  · exact ⟨2, by unfold p03; omega, rfl⟩
def capP (s p : Int) : Int := if 2 < s then (if 2 < p then 2 else p) else p
theorem cap_ok {s p : Int} (hs : s234 s) (hp : p03 p) : p03 (capP s p) ∧ s ^ (capP s p).toNat ≤ 16 ∧ 0 ≤ s ^ (capP s p).toNat := by
  rcases hs with rfl | rfl | rfl <;> rcases hp with rfl | rfl | rfl | rfl <;> exact ⟨by unfold p03 capP; omega, by decide, by decide⟩
theorem tables_turn {st : D} (hs : Str3 st) {s : Int} (h234 : s234 s) (b : Bool) (es0 : List (Str × List Int)) (h1 : 0 < es0.length ∧ es0.length ≤ 15) (h2 : ∀ p ∈ es0, enOk s p.2 = true ∧ p.2.length ≤ 4) (ts : List Tb) (hb : Base s ts) (hl : ts.length < 6) (a5 v6 v7 v8 v9 v10 : SV)
    (q6 : canPut (some v6) = true) (q7 : canPut (some v7) = true) (q8 : canPut (some v8) = true) (q9 : canPut (some v9) = true) :
    ∃ st' ts' w6 w7 w8 w9, Str3 st' ∧ Base s ts' ∧ ts'.length ≤ ts.length + 1 ∧ canPut (some w6) = true ∧ canPut (some w7) = true ∧ canPut (some w8) = true ∧ canPut (some w9) = true ∧ b__law_tables_2 [.io st, .sh (.int s), .sh (.bl b), .own (.lst (es0.map sgD)), .own (.lst (ts.map dT)), a5, v6, v7, v8, v9, v10] =
      .nx [.io st', .sh (.int s), .sh (.bl b), .own (.lst (es0.map sgD)), .own (.lst (ts'.map dT)), a5, w6, w7, w8, w9, .no] := by
  obtain ⟨nm, st1, s1, hn, e1⟩ := name_eq hs
  obtain ⟨d, st2, s2, d0, d1, e2⟩ := next_eq s1 6 (by omega) (by omega)
  obtain ⟨p, hp, e3⟩ := places_at d0 d1
  obtain ⟨hp2, h16, hpos⟩ := cap_ok h234 hp
  have hc := law_count_eq h234 hp2
  have hr : rangeOk (s ^ (capP s p).toNat) = true := rangeOk_small hpos (by omega)
  obtain ⟨st3, es, w9, s3, q9', hes, hes2, e4⟩ := ents_eq s2 h234 b es0 h1 h2 (s ^ (capP s p).toNat).toNat (by omega) (.own (.lst (ts.map dT))) a5 (.sh (.str nm)) (.sh (.int (capP s p))) v9 v10 q9
  have hce := compA_eq (.io st3) (.sh (.int s)) (.sh (.bl b)) (.own (.lst (es0.map sgD))) a5 (.sh (.str nm)) (.sh (.int (capP s p))) (.own (.lst (es.map dS))) w9 v10 ts (by omega)
  obtain ⟨hno, hn8⟩ := nmOk_str hn
  have hk : ∀ k ∈ ts.map (·.nm), PyData.strOk k = true := fun k hk => by
    obtain ⟨t, ht, rfl⟩ := List.mem_map.mp hk
    exact (hb.sh t ht).no
  have hin := in_names (neg := true) hno hk
  have hlt : ts.length < 16777216 := by omega
  have step : ∀ v7', canPut (some v7') = true → (mSeq (mIfS (mCmpT gGt (mVar 1) (mC (.int 2))) (mAsg (putSlot 7) (mCallB gMin (mCons (mVar 7) (mCons (mC (.int 2)) (mNil))))) (mSkip)) (mAsg (putSlot 8) (mLst (mNil)))) [.io st2, .sh (.int s), .sh (.bl b), .own (.lst (es0.map sgD)), .own (.lst (ts.map dT)), a5, .sh (.str nm), .sh (.int p), v8, v9, v10] =
      .nx [.io st2, .sh (.int s), .sh (.bl b), .own (.lst (es0.map sgD)), .own (.lst (ts.map dT)), a5, .sh (.str nm), .sh (.int (capP s p)), .own (.lst []), v9, v10] := fun _ _ => by
    unfold capP
    by_cases hs2 : 2 < s
    · simp [hs2, q8, sizeN]
    · simp [hs2, q8, sizeN]
  cases ha : (ts.map (·.nm)).any (· == nm) with
  | true =>
    rw [ha] at hin
    refine ⟨st3, ts, .sh (.str nm), .sh (.int (capP s p)), .own (.lst (es.map dS)), w9, s3, hb, by omega, rfl, rfl, rfl, q9', ?_⟩
    rw [← names_str] at hin
    have step := step v7 q7
    unfold b__law_tables_2
    by_cases hs2 : 2 < s
    · have ec : (if 2 < p then (2 : Int) else p) = capP s p := by unfold capP; rw [if_pos hs2]
      simp -implicitDefEqProofs [ec, -List.map_map, e1, e2, e3, q6, q7, q8, hs2, sizeN, hc, hr, e4, hce, hin]
    · have ec : capP s p = p := by unfold capP; rw [if_neg hs2]
      simp only [ec] at hc hr e4 hce ⊢
      simp -implicitDefEqProofs [-List.map_map, e1, e2, e3, q6, q7, q8, hs2, sizeN, hc, hr, e4, hce, hin]
  | false =>
    rw [ha] at hin
    have iE : D.imms (es.map dS) = true := imms_dS
    have hT : ShT 16 ⟨nm, capP s p, es⟩ := ⟨by show nm.length ≤ 16; omega, hno, by show es.length ≤ 16; omega, fun e he => by have := (hes2 e he).2; omega⟩
    refine ⟨st3, ts ++ [⟨nm, capP s p, es⟩], .sh (.str nm), .sh (.int (capP s p)), .own (.lst (es.map dS)), w9, s3, ⟨fault_snoc hb.ok ?_, fun t ht => ?_⟩, by simp, rfl, rfl, rfl, q9', ?_⟩
    · unfold okTb
      have t1 : decide ((([] : List Str) ++ ts.map (·.nm)).length < 6) = true := decide_eq_true (by simpa using hl)
      have t2 : tabOk s (capP s p) es = true := by
        unfold tabOk
        have : ∀ e ∈ es, enOk s e = true := fun e he => (hes2 e he).1
        rw [List.all_eq_true.mpr this, decide_eq_true (show (es.length : Int) = s ^ (capP s p).toNat by omega), decide_eq_true h16]
        have : 0 ≤ capP s p ∧ capP s p ≤ 3 := by rcases hp2 with h | h | h | h <;> omega
        rw [decide_eq_true this.1, decide_eq_true this.2]; rfl
      rw [t1]
      show (true && !(([] ++ ts.map (fun t : Tb => t.nm)).any (· == nm)) && nmOk nm && tabOk s (capP s p) es) = true
      rw [List.nil_append, ha, hn, t2]; rfl
    · rcases List.mem_append.mp ht with ht | ht
      · exact hb.sh t ht
      · rw [List.mem_singleton.mp ht]; exact hT
    · rw [← names_str] at hin
      have em : (ts ++ [(⟨nm, capP s p, es⟩ : Tb)]).map dT = ts.map dT ++ [.tup [.str nm, .int (capP s p), .tup (es.map dS)]] := by rw [List.map_append]; rfl
      rw [em]
      unfold b__law_tables_2
      by_cases hs2 : 2 < s
      · have ec : (if 2 < p then (2 : Int) else p) = capP s p := by unfold capP; rw [if_pos hs2]
        simp -implicitDefEqProofs [ec, -List.map_map, e1, e2, e3, q6, q7, q8, hs2, sizeN, hc, hr, e4, hce, hin, hlt, iE]
      · have ec : capP s p = p := by unfold capP; rw [if_neg hs2]
        simp only [ec] at hc hr e4 hce ⊢
        simp -implicitDefEqProofs [-List.map_map, e1, e2, e3, q6, q7, q8, hs2, sizeN, hc, hr, e4, hce, hin, hlt, iE]
theorem tables_eq {st : D} (hs : Str3 st) {s : Int} (h234 : s234 s) (b : Bool) : ∃ (st' : D) (ts : List Tb), Str3 st' ∧ Base s ts ∧ ts.length ≤ 6 ∧ m__law_tables [.io st, .sh (.int s), .sh (.bl b)] = .ok (.fresh (.lst (ts.map dT))) [st'] := by
  obtain ⟨es0, e1, h1, h2, h3⟩ := signs_ok h234
  obtain ⟨d, st1, s1, d0, d1, e2⟩ := next_eq hs 7 (by omega) (by omega)
  obtain ⟨m, rfl⟩ := Int.eq_ofNat_of_zero_le d0
  have h := for_range (g := putSlot 5) (b := b__law_tables_2) (lo := 0) (n := m)
    (fun i sd => ∃ (st : D) (ts : List Tb) (v5 w6 w7 w8 w9 : SV), Str3 st ∧ Base s ts ∧ ts.length ≤ i ∧ canPut (some v5) = true ∧ canPut (some w6) = true ∧ canPut (some w7) = true ∧ canPut (some w8) = true ∧ canPut (some w9) = true ∧ sd = [.io st, .sh (.int s), .sh (.bl b), .own (.lst (es0.map sgD)), .own (.lst (ts.map dT)), v5, w6, w7, w8, w9, .no])
    [.io st1, .sh (.int s), .sh (.bl b), .own (.lst (es0.map sgD)), .own (.lst []), .no, .no, .no, .no, .no, .no] ⟨st1, [], .no, .no, .no, .no, .no, s1, ⟨rfl, fun t h => nomatch h⟩, Nat.le_refl _, rfl, rfl, rfl, rfl, rfl, rfl⟩
    (fun i sd hi ⟨st, ts, v5, w6, w7, w8, w9, q1, q2, q3, q5, q6, q7, q8, q9, hsd⟩ => by
      subst hsd
      obtain ⟨st', ts', x6, x7, x8, x9, r1, r2, r3, r6, r7, r8, r9, e⟩ := tables_turn q1 h234 b es0 ⟨h1, h2⟩ h3 ts q2 (by omega) (.sh (.int i)) w6 w7 w8 w9 .no q6 q7 q8 q9
      refine ⟨_, ?_, st', ts', .sh (.int i), x6, x7, x8, x9, r1, r2, by omega, rfl, r6, r7, r8, r9, rfl⟩
      have eg : putSlot 5 (.val (.int (0 + (i : Int)))) [.io st, .sh (.int s), .sh (.bl b), .own (.lst (es0.map sgD)), .own (.lst (ts.map dT)), v5, w6, w7, w8, w9, .no] = some [.io st, .sh (.int s), .sh (.bl b), .own (.lst (es0.map sgD)), .own (.lst (ts.map dT)), .sh (.int i), w6, w7, w8, w9, .no] := by
        simp [q5]
      rw [eg, putB_some, e])
  obtain ⟨sd', e, st', ts, v5, w6, w7, w8, w9, q1, q2, q3, q5, q6, q7, q8, q9, rfl⟩ := h
  have hr : rangeOk (m : Int) = true := rangeOk_small (by omega) (by omega)
  refine ⟨st', ts, q1, q2, by omega, ?_⟩
  unfold m__law_tables b__law_tables
  simp -implicitDefEqProofs [-List.map_map, e1, e2, hr, e, sizeN]
/-! spoilt signs -/
end G

namespace G
open PySem Av
/-! what a right list of tables is -/
structure TbOk (s : Int) (t : Tb) : Prop where
  nm : nmOk t.nm = true
  tb : tabOk s t.pl t.en = true
theorem fault_inv {s : Int} : ∀ {ts : List Tb} {ks : List Str}, faultL s ks ts = none → (ts.map (·.nm)).Nodup ∧ (∀ t ∈ ts, t.nm ∉ ks) ∧ (∀ t ∈ ts, TbOk s t) ∧ ks.length + ts.length ≤ max 6 ks.length
  | [], ks, h => ⟨List.nodup_nil, (by simp), (by simp), by simp only [List.length_nil]; omega⟩
  | t :: ts, ks, h => by
    unfold faultL at h
    split at h
    · rename_i ho
      obtain ⟨h1, h2, h3, h4⟩ := fault_inv h
      unfold okTb at ho
      simp only [Bool.and_eq_true, decide_eq_true_eq, Bool.not_eq_true'] at ho
      obtain ⟨⟨⟨a1, a2⟩, a3⟩, a4⟩ := ho
      have a2' : t.nm ∉ ks := fun z => by
        have := List.any_eq_false.mp a2 _ z
        simp at this
      refine ⟨?_, ?_, ?_, ?_⟩
      · rw [List.map_cons, List.nodup_cons]
        refine ⟨fun z => ?_, h1⟩
        obtain ⟨u, hu, e⟩ := List.mem_map.mp z
        exact h2 u hu (by rw [e]; simp)
      · intro u hu
        rcases List.mem_cons.mp hu with rfl | hu
        · exact a2'
        · exact fun z => h2 u hu (List.mem_append_left _ z)
      · intro u hu
        rcases List.mem_cons.mp hu with rfl | hu
        · exact ⟨a3, a4⟩
        · exact h3 u hu
      · simp only [List.length_append, List.length_cons, List.length_nil] at h4 ⊢
        omega
    · cases h
theorem fault_mk {s : Int} : ∀ {ts : List Tb} {ks : List Str}, (ts.map (·.nm)).Nodup → (∀ t ∈ ts, t.nm ∉ ks) → (∀ t ∈ ts, TbOk s t) → ks.length + ts.length ≤ 6 → faultL s ks ts = none
  | [], ks, _, _, _, _ => rfl
  | t :: ts, ks, h1, h2, h3, h4 => by
    unfold faultL
    rw [List.map_cons, List.nodup_cons] at h1
    rw [List.length_cons] at h4
    have ht := h3 t List.mem_cons_self
    have e : okTb s ks t = true := by
      unfold okTb
      simp only [Bool.and_eq_true, decide_eq_true_eq, Bool.not_eq_true']
      refine ⟨⟨⟨by omega, ?_⟩, ht.nm⟩, ht.tb⟩
      rw [List.any_eq_false]
      intro k hk
      have := h2 t List.mem_cons_self
      simp only [beq_iff_eq]
      rintro rfl
      exact this hk
    rw [if_pos e]
    refine fault_mk h1.2 (fun u hu z => ?_) (fun u hu => h3 u (List.mem_cons_of_mem _ hu)) (by simp; omega)
    rcases List.mem_append.mp z with z | z
    · exact h2 u (List.mem_cons_of_mem _ hu) z
    · rw [List.mem_singleton] at z
      exact h1.1 (List.mem_map.mpr ⟨u, hu, z⟩)
/-- the table of a name -/
def fT (ts : List Tb) (x : Str) : Option Tb := ts.find? fun t => t.nm == x
theorem eqv_str {x y : Str} : D.eqv (.str x) (.str y) = (x == y) := by
  have := any_strs (ks := [x]) (x := y)
  simpa using this
theorem fill_snoc (f : Str × D × D → D) : ∀ (ts : List Tb) (acc : List (D × D)), (ts.map (·.nm)).Nodup → (∀ t ∈ ts, ∀ kv ∈ acc, D.eqv kv.1 (.str t.nm) = false) →
    (tr ts).foldl (fun acc t => dPut acc (.str t.1) (f t)) acc = acc ++ (tr ts).map fun t => (D.str t.1, f t)
  | [], acc, _, _ => by simp [tr]
  | t :: ts, acc, h1, h2 => by
    rw [List.map_cons, List.nodup_cons] at h1
    have e : dPut acc (.str t.nm) (f (t.nm, .int t.pl, .tup (t.en.map dS))) = acc ++ [(.str t.nm, f (t.nm, .int t.pl, .tup (t.en.map dS)))] := by
      unfold dPut
      rw [if_neg]
      intro z
      rw [List.any_eq_true] at z
      obtain ⟨kv, hk, z⟩ := z
      rw [h2 t List.mem_cons_self kv hk] at z
      cases z
    show (tr ts).foldl _ (dPut acc (.str t.nm) (f (t.nm, .int t.pl, .tup (t.en.map dS)))) = _
    rw [e, fill_snoc f ts _ h1.2 fun u hu kv hk => ?_]
    · rw [List.append_assoc]; rfl
    · rcases List.mem_append.mp hk with hk | hk
      · exact h2 u (List.mem_cons_of_mem _ hu) kv hk
      · rw [List.mem_singleton] at hk
        subst hk
        rw [eqv_str]
        refine beq_eq_false_iff_ne.mpr fun z => h1.1 (List.mem_map.mpr ⟨u, hu, z.symm⟩)
theorem val_tr (f : Str × D × D → D) (x : Str) : ∀ ts : List Tb, dVal ((tr ts).map fun t => (D.str t.1, f t)) (.str x) = (fT ts x).map fun t => f (t.nm, .int t.pl, .tup (t.en.map dS))
  | [] => rfl
  | t :: ts => by
    have ih := val_tr f x ts
    have e1 : tr (t :: ts) = (t.nm, .int t.pl, .tup (t.en.map dS)) :: tr ts := rfl
    unfold dVal fT at ih ⊢
    rw [e1, List.map_cons, List.find?_cons, List.find?_cons]
    dsimp only
    rw [eqv_str]
    cases hb : (t.nm == x) with
    | true => rfl
    | false => exact ih
theorem val_places {ts : List Tb} (h : (ts.map (·.nm)).Nodup) (x : Str) : dVal (fill1 [] (tr ts)) (.str x) = (fT ts x).map fun t => .int t.pl := by
  unfold fill1
  rw [fill_snoc (fun t => t.2.1) ts [] h (by simp), List.nil_append, val_tr]
theorem val_entries {ts : List Tb} (h : (ts.map (·.nm)).Nodup) (x : Str) : dVal (fill2 [] (tr ts)) (.str x) = (fT ts x).map fun t => .tup (t.en.map dS) := by
  unfold fill2
  rw [fill_snoc (fun t => t.2.2) ts [] h (by simp), List.nil_append, val_tr]
section
variable {s : Int} {de : List Int} {ts : List Tb}
theorem ff1 : dFld (fs7 s de ts) "size" = some (.int s) := by kernel_rfl
theorem ff3 : dFld (fs7 s de ts) "tables" = some (.tup (ts.map dT)) := by kernel_rfl
theorem ff4 : dFld (fs7 s de ts) "names" = some (.tup (ts.map nmD)) := by kernel_rfl
theorem ff5 : dFld (fs7 s de ts) "loose" = some (optS (looseL ts)) := by kernel_rfl
theorem ff6 : dFld (fs7 s de ts) "_places" = some (.dic false (fill1 [] (tr ts))) := by kernel_rfl
theorem ff7 : dFld (fs7 s de ts) "_entries" = some (.dic false (fill2 [] (tr ts))) := by kernel_rfl
theorem fm6 : ((("Matrix" : Str), ("_places" : Str)) ∈ clFl) := List.contains_iff_mem.mp fl6
theorem fm7 : ((("Matrix" : Str), ("_entries" : Str)) ∈ clFl) := List.contains_iff_mem.mp fl7
theorem dic_imm {t : Bool} {kvs : List (D × D)} : (D.dic t kvs).imm = false := rfl
theorem imN {ts : List Tb} : D.imms (ts.map nmD) = true := imms_all.mpr fun d hd => by
  obtain ⟨e, _, rfl⟩ := List.mem_map.mp hd
  rfl
theorem imO {ts : List Tb} : (optS (looseL ts)).imm = true := by cases looseL ts <;> rfl
theorem optS_non {o : Option Str} : (optS o).isNon = o.isNone := by cases o <;> rfl
def xn (nm : Str) (x : Str) : Xn := ⟨nm, [("name", .str x)]⟩
theorem places_eq {q : D → SV} (hq : lent q) (h : (ts.map (·.nm)).Nodup) (x : Str) : m_Matrix_places [q (matD s de ts), .sh (.str x)] = match fT ts x with
    | none => .exc (xn "NoConnective" x) []
    | some t => .ok (.val (.int t.pl)) [] := by
  have hv := val_places h x
  unfold m_Matrix_places b_Matrix_places matD xn
  cases e : fT ts x with
  | none =>
    rw [e] at hv
    rcases hq with rfl | rfl <;> simp [fm6, ff6, dic_imm, hv]
  | some t =>
    rw [e] at hv
    rcases hq with rfl | rfl <;> simp [fm6, ff6, dic_imm, hv]
theorem entries_eq {q : D → SV} (hq : lent q) (h : (ts.map (·.nm)).Nodup) (x : Str) : m_Matrix_entries [q (matD s de ts), .sh (.str x)] = match fT ts x with
    | none => .exc (xn "NoConnective" x) []
    | some t => .ok (.val (.tup (t.en.map dS))) [] := by
  have hv := val_entries h x
  unfold m_Matrix_entries b_Matrix_entries matD xn
  cases e : fT ts x with
  | none =>
    rw [e] at hv
    rcases hq with rfl | rfl <;> simp [-List.map_map, fm7, ff7, dic_imm, hv]
  | some t =>
    rw [e] at hv
    rcases hq with rfl | rfl <;> simp [-List.map_map, fm7, ff7, dic_imm, hv]
end
end G

namespace G
open PySem Av
/-! rows, entries at rows, single values -/
def rowsL (s : Nat) : Nat → List (List Int)
  | 0 => [[]]
  | p + 1 => (rowsL s p).flatMap fun r => (List.range s).map fun (v : Nat) => r ++ [(v : Int)]
theorem rows_at {s p : Int} (hs : s234 s) (hp : p03 p) : ∃ r, (r = .val (.lst ((rowsL s.toNat p.toNat).map dS)) ∨ r = .fresh (.lst ((rowsL s.toNat p.toNat).map dS))) ∧ m__law_rows [.sh (.int s), .sh (.int p)] = .ok r [] := by
  rcases hp with rfl | rfl | rfl | rfl
  · rcases hs with rfl | rfl | rfl <;> exact ⟨_, .inr rfl, by kernel_rfl⟩
  · rcases hs with rfl | rfl | rfl <;> exact ⟨_, .inl rfl, by kernel_rfl⟩
  · rcases hs with rfl | rfl | rfl <;> exact ⟨_, .inl rfl, by kernel_rfl⟩
  · rcases hs with rfl | rfl | rfl <;> exact ⟨_, .inl rfl, by kernel_rfl⟩
def numI (s : Int) (xs : List Int) : Int := xs.foldl (fun n v => n * s + v) 0
theorem num_loop (s : Int) (hs : s234 s) (x v : SV) (hv : canPut (some v) = true) (xs : List Int) (n : Int) :
    ∃ v', canPut (some v') = true ∧ forGo (putSlot 3) b_row_number_1 ((xs.map D.int).map .val) [.sh (.int s), x, .sh (.int n), v] = .nx [.sh (.int s), x, .sh (.int (xs.foldl (fun n v => n * s + v) n)), v'] := by
  induction xs generalizing n v with
  | nil => exact ⟨v, hv, rfl⟩
  | cons i xs ih =>
    obtain ⟨v', q, e⟩ := ih (.sh (.int i)) rfl (n * s + i)
    refine ⟨v', q, ?_⟩
    rw [List.map_cons, List.map_cons, forGo_cons, List.foldl_cons, ← e]
    conv => lhs; unfold b_row_number_1
    have h4 : s.natAbs < 18446744073709551616 := by rcases hs with rfl | rfl | rfl <;> decide
    simp [hv, h4]; rfl
theorem number_eq {s : Int} (hs : s234 s) (xs : List Int) : m_row_number [.sh (.int s), .sh (dS xs)] = .ok (.val (.int (numI s xs))) [] := by
  obtain ⟨v', q, e⟩ := num_loop s hs (.sh (dS xs)) .no rfl xs 0
  unfold dS at e
  unfold m_row_number b_row_number numI dS
  simp [-List.map_map, e]
theorem num_rows {s p : Int} (hs : s234 s) (hp : p03 p) : (rowsL s.toNat p.toNat).map (numI s) = (List.range (s ^ p.toNat).toNat).map fun (k : Nat) => (k : Int) := by
  rcases hs with rfl | rfl | rfl <;> rcases hp with rfl | rfl | rfl | rfl <;> kernel_rfl
theorem rows_len {s p : Int} (hs : s234 s) (hp : p03 p) : (rowsL s.toNat p.toNat).length = (s ^ p.toNat).toNat := by
  have := congrArg List.length (num_rows hs hp)
  simpa using this
theorem num_at {s p : Int} (hs : s234 s) (hp : p03 p) (k : Nat) (h : k < (rowsL s.toNat p.toNat).length) : numI s (rowsL s.toNat p.toNat)[k] = k := by
  have e := num_rows hs hp
  have h2 : k < ((rowsL s.toNat p.toNat).map (numI s)).length := by simpa using h
  have : ((rowsL s.toNat p.toNat).map (numI s))[k] = ((List.range (s ^ p.toNat).toNat).map fun (k : Nat) => (k : Int))[k]'(by rw [← e]; exact h2) := by
    congr 1
  simpa using this
section
variable {s : Int} {de : List Int} {ts : List Tb}
theorem entry_none (h : (ts.map (·.nm)).Nodup) {x : Str} (hx : fT ts x = none) (r : D) : m_Matrix_entry [.bor (matD s de ts), .sh (.str x), .sh r] = .exc (xn "NoConnective" x) [] := by
  have hv := val_entries h x
  rw [hx] at hv
  unfold m_Matrix_entry b_Matrix_entry matD xn
  simp [-List.map_map, fm7, ff7, dic_imm, hv]
theorem entry_some (hs : s234 s) (h : (ts.map (·.nm)).Nodup) {x : Str} {t : Tb} (hx : fT ts x = some t) (r : List Int) (k : Nat) (hk : k < t.en.length) (hr : numI s r = k) : m_Matrix_entry [.bor (matD s de ts), .sh (.str x), .sh (dS r)] = .ok (.val (dS t.en[k])) [] := by
  have hv := val_entries h x
  rw [hx] at hv
  have hn := number_eq hs r
  rw [hr] at hn
  have ha : L2.atI (t.en.map dS) (k : Int) = some (dS t.en[k]) := by
    have := atI_at (xs := t.en.map dS) (k := k) (by simpa using hk)
    simpa using this
  unfold m_Matrix_entry b_Matrix_entry matD
  simp [-List.map_map, fm7, ff7, fm1, ff1, dic_imm, hv, hn, ha]
def hd0 (e : List Int) : Int := e.headD 0
theorem plain_loop (x : Str) (a v : SV) (hv : canPut (some v) = true) (es : List (List Int)) (hne : ∀ e ∈ es, e ≠ []) (acc : List Int) (hl : acc.length + es.length ≤ 100000) :
    ∃ sd, forGo (putSlot 3) b_Matrix_plain_table_1 ((es.map dS).map .val) [a, .sh (.str x), .own (.lst (acc.map .int)), v] = (if looseE es then .exc (xn "NotPlain" x) sd else .nx sd) ∧
      (looseE es = false → ∃ v', sd = [a, .sh (.str x), .own (.lst ((acc ++ es.map hd0).map .int)), v']) := by
  induction es generalizing v acc with
  | nil => exact ⟨_, rfl, fun _ => ⟨v, by simp⟩⟩
  | cons e es ih =>
    rw [List.length_cons] at hl
    unfold looseE
    by_cases h : 1 < e.length
    · have h' : (1 : Int) < e.length := by omega
      rw [if_pos h]
      refine ⟨[a, .sh (.str x), .own (.lst (acc.map .int)), .sh (dS e)], ?_, fun z => by cases z⟩
      rw [List.map_cons, List.map_cons, forGo_cons]
      unfold b_Matrix_plain_table_1 xn
      simp [hv, h']
    · have h' : ¬ (1 : Int) < e.length := by omega
      rw [if_neg h]
      obtain ⟨sd, e1, e2⟩ := ih (.sh (dS e)) rfl (fun u hu => hne u (List.mem_cons_of_mem _ hu)) (acc ++ [hd0 e]) (by simp; omega)
      refine ⟨sd, ?_, fun z => ?_⟩
      · rw [← e1, List.map_cons, List.map_cons, forGo_cons]
        cases e with
        | nil => exact absurd rfl (hne [] List.mem_cons_self)
        | cons i r =>
          conv => lhs; unfold b_Matrix_plain_table_1
          have hl2 : acc.length < 16777216 := by omega
          have hr : r = [] := List.eq_nil_of_length_eq_zero (by rw [List.length_cons] at h; omega)
          subst hr
          simp [hv, dS, L2.atI, L2.ixN, hd0, sizeN, hl2]
          rfl
      · obtain ⟨v', q⟩ := e2 z
        exact ⟨v', by rw [q]; simp⟩
end
end G

namespace G
open PySem Av
/-! what is asked, and told -/
theorem fT_mem {ts : List Tb} {x : Str} {t : Tb} (h : fT ts x = some t) : t ∈ ts ∧ t.nm = x := by
  unfold fT at h
  exact ⟨List.mem_of_find?_eq_some h, by simpa using List.find?_some h⟩
section
variable {s : Int} {de : List Int} {ts : List Tb}
theorem plainT_none (h : (ts.map (·.nm)).Nodup) {x : Str} (hx : fT ts x = none) : m_Matrix_plain_table [.bor (matD s de ts), .sh (.str x)] = .exc (xn "NoConnective" x) [] := by
  have h1 := entries_eq (s := s) (de := de) (q := .bor) (.inr rfl) h x
  rw [hx] at h1
  have hi : dFld (fs7 s de ts) "entries" = none := by kernel_rfl
  dsimp only at h1
  unfold matD at *
  unfold m_Matrix_plain_table b_Matrix_plain_table
  simp [hi, h1, xn]
theorem plainT_some (h : (ts.map (·.nm)).Nodup) {x : Str} {t : Tb} (hx : fT ts x = some t) (hne : ∀ e ∈ t.en, e ≠ []) (hl : t.en.length ≤ 100000) : m_Matrix_plain_table [.bor (matD s de ts), .sh (.str x)] = if looseE t.en then .exc (xn "NotPlain" x) [] else .ok (.val (dS (t.en.map hd0))) [] := by
  have h1 := entries_eq (s := s) (de := de) (q := .bor) (.inr rfl) h x
  rw [hx] at h1
  have hi : dFld (fs7 s de ts) "entries" = none := by kernel_rfl
  dsimp only at h1
  obtain ⟨sd, e1, e2⟩ := plain_loop x (.bor (matD s de ts)) .no rfl t.en hne [] (by simpa using hl)
  unfold matD at *
  unfold m_Matrix_plain_table b_Matrix_plain_table
  cases hq : looseE t.en with
  | true =>
    rw [hq, if_pos rfl, List.map_nil] at e1
    rw [if_pos rfl]
    simp [-List.map_map, hi, h1, e1]
  | false =>
    obtain ⟨v', rfl⟩ := e2 hq
    rw [hq, if_neg (by simp), List.map_nil, List.nil_append] at e1
    rw [if_neg (by simp)]
    simp [-List.map_map, hi, h1, e1]
    rfl
theorem need_plain_eq : m_need_plain [.bor (matD s de ts)] = match looseL ts with
    | none => .ok (.val .non) []
    | some x => .exc (xn "NotPlain" x) [] := by
  have iO := @imO ts
  unfold m_need_plain b_need_plain matD xn
  cases e : looseL ts with
  | none =>
    simp [fm5, ff5, e, optS, optS_non] at iO ⊢
  | some x =>
    simp [fm5, ff5, e, optS, optS_non] at iO ⊢
    rfl
end
end G

namespace G
open PySem Av
theorem kn1 (x : Str) : m__law_kinds (xn "NoConnective" x) [.exn] = .ok (.fresh (.lst [.str "name"])) [] := by kernel_rfl
theorem kn2 (x : Str) : m__law_kinds (xn "NotPlain" x) [.exn] = .ok (.fresh (.lst [.str "loose"])) [] := by kernel_rfl
theorem kn3 (x : Str) : m__law_kinds (xn "Unlike" x) [.exn] = .ok (.fresh (.lst [.str "unlike"])) [] := by kernel_rfl
def menuK : D := .lst [.lst [.str "name"], .lst [.str "loose"], .lst [.str "unlike"]]
theorem ki1 : gIn true (.lst [.str "name"]) menuK = some (.val (.bl false)) := by kernel_rfl
theorem ki2 : gIn true (.lst [.str "loose"]) menuK = some (.val (.bl false)) := by kernel_rfl
theorem ki3 : gIn true (.lst [.str "unlike"]) menuK = some (.val (.bl false)) := by kernel_rfl
theorem ta1 (x : Str) : exTab.lookup ((xn "NoConnective" x).c, ("AnytruthsError" : Str)) = some true := by show exTab.lookup (("NoConnective" : Str), ("AnytruthsError" : Str)) = some true; decide +kernel
theorem ta2 (x : Str) : exTab.lookup ((xn "NotPlain" x).c, ("AnytruthsError" : Str)) = some true := by show exTab.lookup (("NotPlain" : Str), ("AnytruthsError" : Str)) = some true; decide +kernel
theorem ta3 (x : Str) : exTab.lookup ((xn "Unlike" x).c, ("AnytruthsError" : Str)) = some true := by show exTab.lookup (("Unlike" : Str), ("AnytruthsError" : Str)) = some true; decide +kernel
theorem tv1 (x : Str) : exTab.lookup ((xn "NoConnective" x).c, ("ValueError" : Str)) = some true := by show exTab.lookup (("NoConnective" : Str), ("ValueError" : Str)) = some true; decide +kernel
theorem tv2 (x : Str) : exTab.lookup ((xn "NotPlain" x).c, ("ValueError" : Str)) = some true := by show exTab.lookup (("NotPlain" : Str), ("ValueError" : Str)) = some true; decide +kernel
theorem tv3 (x : Str) : exTab.lookup ((xn "Unlike" x).c, ("ValueError" : Str)) = some true := by show exTab.lookup (("Unlike" : Str), ("ValueError" : Str)) = some true; decide +kernel
theorem tf1 (x : Str) : ((xn "NoConnective" x).c, ("name" : Str)) ∈ exFl := by show (("NoConnective" : Str), ("name" : Str)) ∈ exFl; exact List.contains_iff_mem.mp (by decide +kernel)
theorem tf2 (x : Str) : ((xn "NotPlain" x).c, ("name" : Str)) ∈ exFl := by show (("NotPlain" : Str), ("name" : Str)) ∈ exFl; exact List.contains_iff_mem.mp (by decide +kernel)
theorem tf3 (x : Str) : ((xn "Unlike" x).c, ("name" : Str)) ∈ exFl := by show (("Unlike" : Str), ("name" : Str)) ∈ exFl; exact List.contains_iff_mem.mp (by decide +kernel)
theorem tn (c x : Str) : (xn c x).fs.isEmpty = false := rfl
theorem tl (c x : Str) : (xn c x).fs.lookup ("name" : Str) = some (.str x) := by kernel_rfl
def nmT (x : Str) : D := .tup [.str "name", .str x]
def anT (d : D) : D := .tup [.str "answer", d]
def loT (x : Str) : D := .tup [.str "loose", .str x]
def unT (x : Str) : D := .tup [.str "unlike", .str x]
section
variable {s : Int} {de : List Int} {ts : List Tb}
theorem nofld : dFld (fs7 s de ts) "places" = none ∧ dFld (fs7 s de ts) "entries" = none ∧ dFld (fs7 s de ts) "entry" = none ∧ dFld (fs7 s de ts) "plain_table" = none := ⟨by kernel_rfl, by kernel_rfl, by kernel_rfl, by kernel_rfl⟩
theorem asked0 (h : (ts.map (·.nm)).Nodup) (x : Str) (o r : D) : m__law_asked [.sh (.int 0), .bor (matD s de ts), .bor o, .sh (.str x), .sh r] = .ok (.val (match fT ts x with | none => nmT x | some t => anT (.int t.pl))) [] := by
  have h1 := places_eq (s := s) (de := de) (q := .bor) (.inr rfl) h x
  obtain ⟨n1, n2, n3, n4⟩ := nofld (s := s) (de := de) (ts := ts)
  have k1 := ki1
  unfold menuK at k1
  unfold matD nmT anT at *
  unfold m__law_asked b__law_asked
  cases e : fT ts x with
  | none =>
    rw [e] at h1
    simp [n1, h1, tryR_exc (ta1 x), kn1, k1, tv1, tn, tf1, tl, sizeN, L2.atI, L2.ixN]
  | some t =>
    rw [e] at h1
    simp [n1, h1, sizeN]
theorem asked1 (h : (ts.map (·.nm)).Nodup) (x : Str) (o r : D) : m__law_asked [.sh (.int 1), .bor (matD s de ts), .bor o, .sh (.str x), .sh r] = .ok (.val (match fT ts x with | none => nmT x | some t => anT (.tup (t.en.map dS)))) [] := by
  have h1 := entries_eq (s := s) (de := de) (q := .bor) (.inr rfl) h x
  obtain ⟨n1, n2, n3, n4⟩ := nofld (s := s) (de := de) (ts := ts)
  have k1 := ki1
  unfold menuK at k1
  unfold matD nmT anT at *
  unfold m__law_asked b__law_asked
  cases e : fT ts x with
  | none =>
    rw [e] at h1
    simp [n2, h1, tryR_exc (ta1 x), kn1, k1, tv1, tn, tf1, tl, sizeN, L2.atI, L2.ixN]
  | some t =>
    rw [e] at h1
    simp [-List.map_map, n2, h1, sizeN]
theorem asked2n (h : (ts.map (·.nm)).Nodup) {x : Str} (hx : fT ts x = none) (o r : D) (hi : r.imm = true) : m__law_asked [.sh (.int 2), .bor (matD s de ts), .bor o, .sh (.str x), .sh r] = .ok (.val (nmT x)) [] := by
  have h1 := entry_none (s := s) (de := de) h hx r
  obtain ⟨n1, n2, n3, n4⟩ := nofld (s := s) (de := de) (ts := ts)
  have k1 := ki1
  unfold menuK at k1
  unfold matD nmT at *
  unfold m__law_asked b__law_asked
  simp [n3, h1, tryR_exc (ta1 x), kn1, k1, tv1, tn, tf1, tl, sizeN, L2.atI, L2.ixN]
theorem asked2s (hs : s234 s) (h : (ts.map (·.nm)).Nodup) {x : Str} {t : Tb} (hx : fT ts x = some t) (o : D) (r : List Int) (k : Nat) (hk : k < t.en.length) (hr : numI s r = k) : m__law_asked [.sh (.int 2), .bor (matD s de ts), .bor o, .sh (.str x), .sh (dS r)] = .ok (.val (anT (dS t.en[k]))) [] := by
  have h1 := entry_some (de := de) hs h hx r k hk hr
  obtain ⟨n1, n2, n3, n4⟩ := nofld (s := s) (de := de) (ts := ts)
  unfold matD anT at *
  unfold m__law_asked b__law_asked
  simp [n3, h1, sizeN]
theorem asked3n (h : (ts.map (·.nm)).Nodup) {x : Str} (hx : fT ts x = none) (o r : D) : m__law_asked [.sh (.int 3), .bor (matD s de ts), .bor o, .sh (.str x), .sh r] = .ok (.val (nmT x)) [] := by
  have h1 := plainT_none (s := s) (de := de) h hx
  obtain ⟨n1, n2, n3, n4⟩ := nofld (s := s) (de := de) (ts := ts)
  have k1 := ki1
  unfold menuK at k1
  unfold matD nmT at *
  unfold m__law_asked b__law_asked
  simp [n4, h1, tryR_exc (ta1 x), kn1, k1, tv1, tn, tf1, tl, sizeN, L2.atI, L2.ixN]
theorem asked3s (h : (ts.map (·.nm)).Nodup) {x : Str} {t : Tb} (hx : fT ts x = some t) (hne : ∀ e ∈ t.en, e ≠ []) (hl : t.en.length ≤ 100000) (o r : D) :
    m__law_asked [.sh (.int 3), .bor (matD s de ts), .bor o, .sh (.str x), .sh r] = .ok (.val (if looseE t.en then loT x else anT (dS (t.en.map hd0)))) [] := by
  have h1 := plainT_some (s := s) (de := de) h hx hne hl
  obtain ⟨n1, n2, n3, n4⟩ := nofld (s := s) (de := de) (ts := ts)
  have k1 := ki2
  unfold menuK at k1
  unfold matD loT anT at *
  unfold m__law_asked b__law_asked
  cases e : looseE t.en with
  | true =>
    rw [e, if_pos rfl] at h1
    rw [if_pos rfl]
    simp [n4, h1, tryR_exc (ta2 x), kn2, k1, tv2, tn, tf2, tl, sizeN, L2.atI, L2.ixN]
  | false =>
    rw [e, if_neg (by simp)] at h1
    rw [if_neg (by simp)]
    simp [n4, h1, sizeN]
def loD (o : Option Str) : D := match o with
  | none => anT .non
  | some x => loT x
theorem asked4 (x : Str) (o r : D) : m__law_asked [.sh (.int 4), .bor (matD s de ts), .bor o, .sh (.str x), .sh r] = .ok (.val (loD (looseL ts))) [] := by
  have h1 := need_plain_eq (s := s) (de := de) (ts := ts)
  have k1 := ki2
  unfold menuK at k1
  unfold matD at *
  unfold m__law_asked b__law_asked loD anT loT
  have im : (D.obj "Matrix" (fs7 s de ts)).imm = false := rfl
  cases e : looseL ts with
  | none =>
    rw [e] at h1
    simp [h1, sizeN, im]
  | some y =>
    rw [e] at h1
    simp [h1, im, tryR_exc (ta2 y), kn2, k1, tv2, tn, tf2, tl, sizeN, L2.atI, L2.ixN]
end
end G

namespace G
open PySem Av
/-! the law's own look at the tables -/
theorem looseE_filter : ∀ es : List (List Int), (0 < (es.filter fun e => decide (1 < e.length)).length) ↔ looseE es = true
  | [] => by simp [looseE]
  | e :: es => by
    unfold looseE
    by_cases h : 1 < e.length
    · simp [h]
    · simp only [h, if_false, decide_false, List.filter_cons_of_neg (p := fun e : List Int => decide (1 < e.length)) (a := e) (by simp [h])]
      exact looseE_filter es
theorem fil_loose (a0 a1 a2 a3 v : SV) (es : List (List Int)) (hl : es.length ≤ 100000) : compGo [4] (putSlot 4) (mCmpT gGt (mCallB gLen (mCons (mVar 4) mNil)) (mC (.int 1))) (mVar 4) ((es.map dS).map .val) [] [a0, a1, a2, a3, v] =
    .ok (.fresh (.lst ((es.filter fun e => decide (1 < e.length)).map dS))) [a0, a1, a2, a3, .no] := by
  have h := comp_fil (vs := [4]) (g := putSlot 4) (mt := mCmpT gGt (mCallB gLen (mCons (mVar 4) mNil)) (mC (.int 1))) (me := mVar 4) (B := [a0, a1, a2, a3, .no])
    (fun r => match r with | .val (.tup xs) => decide ((1 : Int) < xs.length) | _ => false) (fun r => match r with | .val d => d | _ => .non) ((es.map dS).map .val) [] [a0, a1, a2, a3, v] rfl (by rw [sizeN]; simp; omega) (fun r hr => by
      obtain ⟨d, hd, rfl⟩ := List.mem_map.mp hr
      obtain ⟨e, he, rfl⟩ := List.mem_map.mp hd
      refine ⟨[a0, a1, a2, a3, .sh (dS e)], [a0, a1, a2, a3, .sh (dS e)], ?_, ?_, fun _ => rfl, fun _ => ⟨[a0, a1, a2, a3, .sh (dS e)], ?_, rfl⟩⟩
      · simp
      · unfold dS; simp
      · simp)
  rw [h]
  congr 3
  rw [List.map_map, List.filter_map, List.nil_append, List.map_map]
  have e1 : ((fun r : RV => match r with | .val (.tup xs) => decide ((1 : Int) < xs.length) | _ => false) ∘ RV.val ∘ dS) = fun e : List Int => decide (1 < e.length) := by
    funext e
    show decide ((1 : Int) < ((e.map D.int).length : Nat)) = _
    rw [List.length_map]
    exact decide_eq_decide.mpr (by omega)
  rw [e1]
  rfl
theorem loose_turn (a0 : SV) (nm : Str) (p : Int) (v : SV) (es : List (List Int)) (hl : es.length ≤ 100000) : b__law_loose_1 [a0, .sh (.str nm), .sh (.int p), .sh (.tup (es.map dS)), v] = if looseE es then .ret (.val (loT nm)) [a0, .sh (.str nm), .sh (.int p), .sh (.tup (es.map dS)), .no] else .nx [a0, .sh (.str nm), .sh (.int p), .sh (.tup (es.map dS)), .no] := by
  have h := fil_loose a0 (.sh (.str nm)) (.sh (.int p)) (.sh (.tup (es.map dS))) v es hl
  have hi := looseE_filter es
  unfold b__law_loose_1 loT
  cases e : looseE es with
  | true =>
    have h2 : (0 : Int) < (es.filter fun e => decide (1 < e.length)).length := by have := hi.mpr e; omega
    generalize es.filter (fun e => decide (1 < e.length)) = F at h h2
    have h3 : ¬ F = [] := by rintro rfl; exact absurd h2 (by decide)
    simp [-List.map_map, h, h3, sizeN]
  | false =>
    have h2 : ¬ (0 : Int) < (es.filter fun e => decide (1 < e.length)).length := fun z => by
      have := hi.mp (by omega)
      rw [e] at this; cases this
    generalize es.filter (fun e => decide (1 < e.length)) = F at h h2
    have h3 : F = [] := List.eq_nil_of_length_eq_zero (by omega)
    subst h3
    simp [-List.map_map, h, sizeN]
theorem law_loose_loop (a0 v1 v2 v3 v4 : SV) (ts : List Tb) (h1 : canPut (some v1) = true) (h2 : canPut (some v2) = true) (h3 : canPut (some v3) = true) (hl : ∀ t ∈ ts, t.en.length ≤ 100000) :
    ∃ sd, forGo (gTupT 3 (gsCons (putSlot 1) (gsCons (putSlot 2) (gsCons (putSlot 3) (gsNil))))) b__law_loose_1 ((ts.map dT).map .val) [a0, v1, v2, v3, v4] = match looseL ts with
      | none => .nx sd
      | some x => .ret (.val (loT x)) sd := by
  induction ts generalizing v1 v2 v3 v4 with
  | nil => exact ⟨_, rfl⟩
  | cons t ts ih =>
    rw [List.map_cons, List.map_cons, forGo_cons]
    have eg : gTupT 3 (gsCons (putSlot 1) (gsCons (putSlot 2) (gsCons (putSlot 3) (gsNil)))) (.val (dT t)) [a0, v1, v2, v3, v4] = some [a0, .sh (.str t.nm), .sh (.int t.pl), .sh (.tup (t.en.map dS)), v4] := by
      simp [dT, h1, h2, h3]
    rw [eg, putB_some, loose_turn _ _ _ _ _ (hl t List.mem_cons_self)]
    unfold looseL
    cases e : looseE t.en with
    | true => rw [if_pos rfl, if_pos rfl, loopR_ret]; exact ⟨_, rfl⟩
    | false => rw [if_neg (by simp), if_neg (by simp), loopR_nx]; exact ih _ _ _ _ rfl rfl rfl fun t h => hl t (List.mem_cons_of_mem _ h)
theorem law_loose_eq {q : D → SV} (hq : lent q) (ts : List Tb) (hl : ∀ t ∈ ts, t.en.length ≤ 100000) : m__law_loose [q (.lst (ts.map dT))] = .ok (.val (loD (looseL ts))) [] := by
  obtain ⟨sd, h⟩ := law_loose_loop (q (.lst (ts.map dT))) .no .no .no .no ts rfl rfl rfl hl
  have hb := bor_map (xs := ts.map dT) imms_dT
  unfold m__law_loose b__law_loose loD anT
  rcases hq with rfl | rfl
  · cases e : looseL ts with
    | none => rw [e] at h; simp [-List.map_map, h, sizeN]
    | some x => rw [e] at h; simp [-List.map_map, h, sizeN]
  · cases e : looseL ts with
    | none => rw [e] at h; simp [-List.map_map, hb, h, sizeN]
    | some x => rw [e] at h; simp [-List.map_map, hb, h, sizeN]
end G

namespace G
open PySem Av
/-! a name of a matrix, all of it -/
theorem eq_strs {x y : Str} (hx : PyData.strOk x = true) (hy : PyData.strOk y = true) : gEq (.str x) (.str y) = some (.val (.bl (x == y))) := by
  unfold gEq
  rw [show (D.str x).okN 64 = PyData.strOk x from rfl, show (D.str y).okN 64 = PyData.strOk y from rfl, hx, hy, eqv_str]
  rfl
theorem filter_find : ∀ {ts : List Tb} (x : Str), (ts.map (·.nm)).Nodup → ts.filter (fun t => t.nm == x) = (fT ts x).toList
  | [], x, _ => rfl
  | t :: ts, x, h => by
    rw [List.map_cons, List.nodup_cons] at h
    have ih := filter_find x h.2
    unfold fT at ih ⊢
    rw [List.find?_cons, List.filter_cons]
    cases hb : t.nm == x with
    | false => simpa using ih
    | true =>
      have e : ts.filter (fun t => t.nm == x) = [] := by
        rw [List.filter_eq_nil_iff]
        intro u hu z
        have e1 : t.nm = x := by simpa using hb
        have e2 : u.nm = x := by simpa using z
        exact h.1 (List.mem_map.mpr ⟨u, hu, by rw [e1, e2]⟩)
      simp [e]
theorem any_find {ts : List Tb} {x : Str} : ((ts.map (·.nm)).any (· == x)) = (fT ts x).isSome := by
  unfold fT
  induction ts with
  | nil => rfl
  | cons t ts ih =>
    rw [List.map_cons, List.any_cons, List.find?_cons]
    cases t.nm == x with
    | true => rfl
    | false => simpa using ih
theorem fil_name (a0 a1 a2 a4 a5 a6 a7 a8 a9 a10 v a12 : SV) (x : Str) (hx : PyData.strOk x = true) (ts : List Tb) (hl : ts.length ≤ 100000) (hs : ∀ t ∈ ts, PyData.strOk t.nm = true) :
    compGo [11] (putSlot 11) (mCmpT gEq (mIx (mVar 11) (mC (.int 0))) (mVar 3)) (mVar 11) ((ts.map dT).map .val) [] [a0, a1, a2, .sh (.str x), a4, a5, a6, a7, a8, a9, a10, v, a12] =
    .ok (.fresh (.lst ((ts.filter fun t => t.nm == x).map dT))) [a0, a1, a2, .sh (.str x), a4, a5, a6, a7, a8, a9, a10, .no, a12] := by
  have h := comp_fil (vs := [11]) (g := putSlot 11) (mt := mCmpT gEq (mIx (mVar 11) (mC (.int 0))) (mVar 3)) (me := mVar 11) (B := [a0, a1, a2, .sh (.str x), a4, a5, a6, a7, a8, a9, a10, .no, a12])
    (fun r => match r with | .val (.tup (.str y :: _)) => y == x | _ => false) (fun r => match r with | .val d => d | _ => .non) ((ts.map dT).map .val) [] [a0, a1, a2, .sh (.str x), a4, a5, a6, a7, a8, a9, a10, v, a12] rfl (by rw [sizeN]; simp; omega) (fun r hr => by
      obtain ⟨d, hd, rfl⟩ := List.mem_map.mp hr
      obtain ⟨t, ht, rfl⟩ := List.mem_map.mp hd
      refine ⟨[a0, a1, a2, .sh (.str x), a4, a5, a6, a7, a8, a9, a10, .sh (dT t), a12], [a0, a1, a2, .sh (.str x), a4, a5, a6, a7, a8, a9, a10, .sh (dT t), a12], ?_, ?_, fun _ => rfl, fun _ => ⟨[a0, a1, a2, .sh (.str x), a4, a5, a6, a7, a8, a9, a10, .sh (dT t), a12], ?_, rfl⟩⟩
      · simp
      · unfold dT
        simp [L2.atI, L2.ixN, eq_strs (hs t ht) hx]
      · simp)
  rw [h, List.nil_append]
  have e : ((ts.map dT).map RV.val).filter (fun r => match r with | .val (.tup (.str y :: _)) => y == x | _ => false) = ((ts.filter fun t => t.nm == x).map dT).map RV.val := by
    rw [List.map_map, List.filter_map, List.map_map]
    rfl
  rw [e, List.map_map, List.map_map]
  rfl
theorem hd_comp (a : List SV) (v : SV) (es : List (List Int)) (ha : a.length = 12) (hl : es.length ≤ 100000) (hne : ∀ e ∈ es, e ≠ []) : compGo [12] (putSlot 12) (mPure true) (mIx (mVar 12) (mC (.int 0))) ((es.map dS).map .val) [] (a ++ [v]) = .ok (.fresh (.lst ((es.map hd0).map .int))) (a ++ [.no]) := by
  match a, ha with
  | [a0, a1, a2, a3, a4, a5, a6, a7, a8, a9, a10, a11], _ =>
  have h := comp_map (vs := [12]) (g := putSlot 12) (mt := mPure true) (me := mIx (mVar 12) (mC (.int 0))) (B := [a0, a1, a2, a3, a4, a5, a6, a7, a8, a9, a10, a11, .no])
    (fun r => match r with | .val (.tup (d :: _)) => d | _ => .int 0) ((es.map dS).map .val) [] [a0, a1, a2, a3, a4, a5, a6, a7, a8, a9, a10, a11, v] rfl (by rw [sizeN]; simp; omega) (fun r hr => by
      obtain ⟨d, hd, rfl⟩ := List.mem_map.mp hr
      obtain ⟨e, he, rfl⟩ := List.mem_map.mp hd
      refine ⟨[a0, a1, a2, a3, a4, a5, a6, a7, a8, a9, a10, a11, .sh (dS e)], _, [a0, a1, a2, a3, a4, a5, a6, a7, a8, a9, a10, a11, .sh (dS e)], ?_, rfl, ?_, rfl⟩
      · simp
      · cases e with
        | nil => exact absurd rfl (hne [] he)
        | cons i r => simp [dS, L2.atI, L2.ixN])
  have e : ((es.map dS).map RV.val).map (fun r => match r with | .val (.tup (d :: _)) => d | _ => .int 0) = (es.map hd0).map .int := by
    rw [List.map_map, List.map_map, List.map_map]
    apply List.map_congr_left
    intro e _
    cases e <;> rfl
  rw [e] at h
  exact h
/-- what is known of a list of tables -/
structure Good (s : Int) (ts : List Tb) : Prop where
  nd : (ts.map (·.nm)).Nodup
  ok : ∀ t ∈ ts, TbOk s t
  n : ts.length ≤ 6
theorem tab_facts {s : Int} {t : Tb} (h : TbOk s t) : p03 t.pl ∧ t.en.length = (s ^ t.pl.toNat).toNat ∧ t.en.length ≤ 16 ∧ (∀ e ∈ t.en, e ≠ []) ∧ ∀ e ∈ t.en, sgI s 0 e = true := by
  have h := h.tb
  unfold tabOk at h
  simp only [Bool.and_eq_true, decide_eq_true_eq, List.all_eq_true] at h
  obtain ⟨⟨⟨⟨h1, h2⟩, h3⟩, h4⟩, h5⟩ := h
  refine ⟨by unfold p03; omega, by omega, by omega, fun e he z => ?_, fun e he => ?_⟩
  · have := h5 e he
    subst z
    simp [enOk] at this
  · have := h5 e he
    unfold enOk at this
    rw [Bool.and_eq_true] at this
    exact this.2
theorem sg_len {s : Int} : ∀ {xs : List Int} {k : Int}, sgI s k xs = true → (xs.length : Int) ≤ s - k ∨ xs = []
  | [], _, _ => .inr rfl
  | x :: xs, k, h => by
    unfold sgI at h
    rw [Bool.and_eq_true, Bool.and_eq_true, decide_eq_true_eq, decide_eq_true_eq] at h
    rcases sg_len (k := x + 1) h.2 with h4 | h4
    · left; rw [List.length_cons]; push_cast; omega
    · left; subst h4; simp; omega
theorem Good.sh {s : Int} (hs : s234 s) {ts : List Tb} (h : Good s ts) : ∀ t ∈ ts, ShT 16 t := fun t ht => by
  obtain ⟨h1, h2, h3, h4, h5⟩ := tab_facts (h.ok t ht)
  obtain ⟨a, b⟩ := nmOk_str (h.ok t ht).nm
  refine ⟨by omega, a, h3, fun e he => ?_⟩
  have h6 : s ≤ 4 := by rcases hs with rfl | rfl | rfl <;> omega
  rcases sg_len (h5 e he) with h7 | h7
  · omega
  · subst h7; simp
end G

namespace G
open PySem Av
theorem pl_dS {n : Nat} {xs : List Int} (h : xs.length ≤ 100000) : pl (n + 2) (dS xs) = true := by
  unfold dS pl
  rw [Bool.and_eq_true, List.all_eq_true, decide_eq_true_eq, List.length_map]
  refine ⟨by omega, fun x hx => ?_⟩
  obtain ⟨i, _, rfl⟩ := List.mem_map.mp hx
  rfl
theorem pl_tup {n : Nat} {xs : List D} (h : xs.length ≤ 1000000) (hx : ∀ x ∈ xs, pl n x = true) : pl (n + 1) (.tup xs) = true := by
  unfold pl
  rw [Bool.and_eq_true, List.all_eq_true, decide_eq_true_eq]
  exact ⟨h, hx⟩
theorem pl_dT {B n : Nat} (hB : B ≤ 100000) {t : Tb} (ht : ShT B t) : pl (n + 4) (dT t) = true := by
  refine pl_tup (by simp) fun x hx => ?_
  rcases List.mem_cons.mp hx with rfl | hx
  · exact ht.no
  · rcases List.mem_cons.mp hx with rfl | hx
    · rfl
    · rw [List.mem_singleton.mp hx]
      refine pl_tup (by rw [List.length_map]; have := ht.el; omega) fun y hy => ?_
      obtain ⟨e, he, rfl⟩ := List.mem_map.mp hy
      exact pl_dS (by have := ht.es e he; omega)

theorem exact_names {B : Nat} (ts : List Tb) (hsh : ∀ t ∈ ts, ShT B t) (hl : ts.length ≤ 100000) : m__law_exact [.sh (.tup (ts.map nmD)), .sh (.tup (ts.map nmD))] = .ok (.val (.bl true)) [] :=
  exact_refl 8 _ (pl_tup (n := 7) (by rw [List.length_map]; omega) fun y hy => by
    obtain ⟨t, ht, rfl⟩ := List.mem_map.mp hy
    exact (hsh t ht).no)
theorem ex_nm {x : Str} (hx : PyData.strOk x = true) : m__law_exact [.sh (nmT x), .sh (nmT x)] = .ok (.val (.bl true)) [] :=
  exact_refl 8 _ (pl_tup (n := 7) (by simp) fun y hy => by
    simp only [List.mem_cons, List.not_mem_nil, or_false] at hy
    rcases hy with rfl | rfl
    · decide +kernel
    · exact hx)
theorem ex_lo {x : Str} (hx : PyData.strOk x = true) : m__law_exact [.sh (loT x), .sh (loT x)] = .ok (.val (.bl true)) [] :=
  exact_refl 8 _ (pl_tup (n := 7) (by simp) fun y hy => by
    simp only [List.mem_cons, List.not_mem_nil, or_false] at hy
    rcases hy with rfl | rfl
    · decide +kernel
    · exact hx)
theorem ex_un {x : Str} (hx : PyData.strOk x = true) : m__law_exact [.sh (unT x), .sh (unT x)] = .ok (.val (.bl true)) [] :=
  exact_refl 8 _ (pl_tup (n := 7) (by simp) fun y hy => by
    simp only [List.mem_cons, List.not_mem_nil, or_false] at hy
    rcases hy with rfl | rfl
    · decide +kernel
    · exact hx)
theorem ex_an {d : D} (hd : pl 7 d = true) : m__law_exact [.sh (anT d), .sh (anT d)] = .ok (.val (.bl true)) [] :=
  exact_refl 8 _ (pl_tup (n := 7) (by simp) fun y hy => by
    simp only [List.mem_cons, List.not_mem_nil, or_false] at hy
    rcases hy with rfl | rfl
    · decide +kernel
    · exact hd)
theorem mat_imm {s : Int} {de : List Int} {ts : List Tb} : (matD s de ts).imm = false := rfl
section
variable {s : Int} {de : List Int} {ts : List Tb}
theorem in_mat (neg : Bool) (x : Str) : gInOwn neg "Matrix" "names" (.str x) (matD s de ts) = some (.val (.bl (neg.xor (fT ts x).isSome))) := by
  have hs : strsOf (ts.map nmD) = some (ts.map (·.nm)) := by
    rw [names_str]
    exact strsOf_map
  unfold matD
  rw [gInOwn_eq, if_pos rfl, ff4, strsI_tup, hs, Option.map_some, any_find]
theorem asked_none (h : (ts.map (·.nm)).Nodup) {x : Str} (hx : fT ts x = none) (o : D) (i : Nat) (hi : i < 4) : m__law_asked [.sh (.int i), .bor (matD s de ts), .bor o, .sh (.str x), .sh (.tup [.int 0, .int 1])] = .ok (.val (nmT x)) [] := by
  have : i = 0 ∨ i = 1 ∨ i = 2 ∨ i = 3 := by omega
  rcases this with rfl | rfl | rfl | rfl
  · have := asked0 (s := s) (de := de) h x o (.tup [.int 0, .int 1])
    rw [hx] at this
    exact this
  · have := asked1 (s := s) (de := de) h x o (.tup [.int 0, .int 1])
    rw [hx] at this
    exact this
  · exact asked2n h hx o _ rfl
  · exact asked3n h hx o _
theorem name_none (hs : s234 s) (hg : Good s ts) {q : D → SV} (hq : lent q) {x : Str} (hx : PyData.strOk x = true) (hf : fT ts x = none) :
    m__law_name_right [.bor (matD s de ts), .sh (.int s), q (.lst (ts.map dT)), .sh (.str x)] = .ok (.val (.bl true)) [] := by
  have hn := hg.n
  have e1 := fil_name (.bor (matD s de ts)) (.sh (.int s)) (q (.lst (ts.map dT))) .no .no .no .no .no .no .no .no .no x hx ts (by omega) fun t ht => (hg.sh hs t ht).no
  rw [filter_find x hg.nd, hf] at e1
  have e2 := in_mat (s := s) (de := de) (ts := ts) false x
  rw [hf] at e2
  have im := @mat_imm s de ts
  have xn := ex_nm hx
  have h := for_range (g := putSlot 5) (b := b__law_name_right_1) (lo := 0) (n := 4)
    (fun k sd => ∃ v5, canPut (some v5) = true ∧ sd = [.bor (matD s de ts), .sh (.int s), q (.lst (ts.map dT)), .sh (.str x), .own (.lst []), v5, .no, .no, .no, .no, .no, .no, .no])
    [.bor (matD s de ts), .sh (.int s), q (.lst (ts.map dT)), .sh (.str x), .own (.lst []), .no, .no, .no, .no, .no, .no, .no, .no] ⟨.no, rfl, rfl⟩
    (fun k sd hk ⟨v5, q5, hsd⟩ => by
      subst hsd
      refine ⟨[.bor (matD s de ts), .sh (.int s), q (.lst (ts.map dT)), .sh (.str x), .own (.lst []), .sh (.int k), .no, .no, .no, .no, .no, .no, .no], ?_, _, rfl, rfl⟩
      have ha := asked_none (s := s) (de := de) hg.nd hf (matD s de ts) k hk
      unfold nmT at ha xn
      unfold b__law_name_right_1
      simp [q5, im, ha, xn, sizeN])
  obtain ⟨sd', e3, v5, q5, rfl⟩ := h
  have hr : rangeOk 4 = true := by decide
  have hb := bor_map (xs := ts.map dT) imms_dT
  have g1 : gNe (.bl false) (.bl false) = some (.val (.bl false)) := by kernel_rfl
  have g2 : gEq (.int 0) (.int 1) = some (.val (.bl false)) := by kernel_rfl
  have g3 : gEq (.int 0) (.int 0) = some (.val (.bl true)) := by kernel_rfl
  unfold m__law_name_right b__law_name_right
  rcases hq with rfl | rfl
  · simp -implicitDefEqProofs [-List.map_map, e1, e2, e3, im, hr, g1, g2, g3, sizeN]
  · simp -implicitDefEqProofs [-List.map_map, hb, e1, e2, e3, im, hr, g1, g2, g3, sizeN]
end
end G

namespace G
open PySem Av
def kindL (v : SV) (d : D) : Prop := v = .sh d ∨ v = .own d
theorem ix_dT0 {r : RV} {t : Tb} {sd : List SV} : mIx2 r (dT t) (.int 0) sd = mGet (elemOf sd r.keep (.str t.nm)) sd := by
  unfold dT
  simp [L2.atI, L2.ixN]
theorem ix_dT1 {r : RV} {t : Tb} {sd : List SV} : mIx2 r (dT t) (.int 1) sd = mGet (elemOf sd r.keep (.int t.pl)) sd := by
  unfold dT
  simp [L2.atI, L2.ixN]
theorem ix_dT2 {r : RV} {t : Tb} {sd : List SV} : mIx2 r (dT t) (.int 2) sd = mGet (elemOf sd r.keep (.tup (t.en.map dS))) sd := by
  unfold dT
  simp [L2.atI, L2.ixN]
section
variable {s : Int} {de : List Int} {ts : List Tb}
theorem pl_ens {n : Nat} {es : List (List Int)} (h : es.length ≤ 16) (h2 : ∀ e ∈ es, e.length ≤ 16) : pl (n + 3) (.tup (es.map dS)) = true :=
  pl_tup (by rw [List.length_map]; omega) fun y hy => by
    obtain ⟨e, he, rfl⟩ := List.mem_map.mp hy
    exact pl_dS (by have := h2 e he; omega)
theorem rows_loop (hs : s234 s) (hg : Good s ts) {x : Str} {t : Tb} (hf : fT ts x = some t) (a2 a4 a8 v9 : SV) (h9 : kindL v9 (.lst ((rowsL s.toNat t.pl.toNat).map dS))) :
    ∃ v10, forGo (putSlot 10) b__law_name_right_2 (rangeItems 0 t.en.length) [.bor (matD s de ts), .sh (.int s), a2, .sh (.str x), a4, .no, .sh (.int t.pl), .sh (.tup (t.en.map dS)), a8, v9, .no, .no, .no] =
      .nx [.bor (matD s de ts), .sh (.int s), a2, .sh (.str x), a4, .no, .sh (.int t.pl), .sh (.tup (t.en.map dS)), a8, v9, v10, .no, .no] := by
  have ht := (fT_mem hf).1
  obtain ⟨p1, p2, p3, p4, p5⟩ := tab_facts (hg.ok t ht)
  have hsh := hg.sh hs t ht
  have im := @mat_imm s de ts
  have h := for_range (g := putSlot 10) (b := b__law_name_right_2) (lo := 0) (n := t.en.length)
    (fun k sd => ∃ v10, canPut (some v10) = true ∧ sd = [.bor (matD s de ts), .sh (.int s), a2, .sh (.str x), a4, .no, .sh (.int t.pl), .sh (.tup (t.en.map dS)), a8, v9, v10, .no, .no])
    [.bor (matD s de ts), .sh (.int s), a2, .sh (.str x), a4, .no, .sh (.int t.pl), .sh (.tup (t.en.map dS)), a8, v9, .no, .no, .no] ⟨.no, rfl, rfl⟩
    (fun k sd hk ⟨v10, q10, hsd⟩ => by
      subst hsd
      refine ⟨[.bor (matD s de ts), .sh (.int s), a2, .sh (.str x), a4, .no, .sh (.int t.pl), .sh (.tup (t.en.map dS)), a8, v9, .sh (.int k), .no, .no], ?_, _, rfl, rfl⟩
      have hk2 : k < (rowsL s.toNat t.pl.toNat).length := by rw [rows_len hs p1, ← p2]; exact hk
      have ha := asked2s (de := de) hs hg.nd hf (matD s de ts) (rowsL s.toNat t.pl.toNat)[k] k hk (num_at hs p1 k hk2)
      have hx := ex_an (d := dS t.en[k]) (pl_dS (n := 5) (by have := hsh.es t.en[k] (List.getElem_mem hk); omega))
      have i1 : L2.atI ((rowsL s.toNat t.pl.toNat).map dS) (k : Int) = some (dS (rowsL s.toNat t.pl.toNat)[k]) := by
        have := atI_at (xs := (rowsL s.toNat t.pl.toNat).map dS) (k := k) (by simpa using hk2)
        simpa using this
      have i2 : L2.atI (t.en.map dS) (k : Int) = some (dS t.en[k]) := by
        have := atI_at (xs := t.en.map dS) (k := k) (by simpa using hk)
        simpa using this
      unfold anT at ha hx
      unfold b__law_name_right_2
      rcases h9 with rfl | rfl
      · simp [-List.map_map, q10, im, ha, hx, i1, i2, sizeN]
      · simp [-List.map_map, q10, im, ha, hx, i1, i2, sizeN])
  obtain ⟨sd', e, v10, q10, rfl⟩ := h
  exact ⟨v10, e⟩
theorem name_some (hs : s234 s) (hg : Good s ts) {q : D → SV} (hq : lent q) {x : Str} (hx : PyData.strOk x = true) {t : Tb} (hf : fT ts x = some t) :
    m__law_name_right [.bor (matD s de ts), .sh (.int s), q (.lst (ts.map dT)), .sh (.str x)] = .ok (.val (.bl true)) [] := by
  have hn := hg.n
  obtain ⟨ht, hnm⟩ := fT_mem hf
  obtain ⟨p1, p2, p3, p4, p5⟩ := tab_facts (hg.ok t ht)
  have hsh := hg.sh hs t ht
  have e1 := fil_name (.bor (matD s de ts)) (.sh (.int s)) (q (.lst (ts.map dT))) .no .no .no .no .no .no .no .no .no x hx ts (by omega) fun t ht => (hg.sh hs t ht).no
  rw [filter_find x hg.nd, hf] at e1
  have e2 := in_mat (s := s) (de := de) (ts := ts) false x
  rw [hf] at e2
  have im := @mat_imm s de ts
  have hb := bor_map (xs := ts.map dT) imms_dT
  have e3 := law_loose_eq (q := .bor) (.inr rfl) [t] (by simp; omega)
  obtain ⟨r, hr, e4⟩ := rows_at hs p1
  have hlen := rows_len hs p1
  rw [← p2] at hlen
  have e5 := asked0 (s := s) (de := de) hg.nd x (matD s de ts) (.tup [])
  have e6 := asked3s (s := s) (de := de) hg.nd hf p4 (by omega) (matD s de ts) (.tup [])
  have e7 := asked1 (s := s) (de := de) hg.nd x (matD s de ts) (.tup [])
  rw [hf] at e5 e7
  have x5 := ex_an (d := .int t.pl) rfl
  have x7 := ex_an (d := .tup (t.en.map dS)) (pl_ens (n := 4) p3 hsh.es)
  have g1 : gNe (.bl true) (.bl true) = some (.val (.bl false)) := by kernel_rfl
  have g2 : gEq (.int 1) (.int 1) = some (.val (.bl true)) := by kernel_rfl
  have g3 : gEq (.int 1) (.int 0) = some (.val (.bl false)) := by kernel_rfl
  have g4 : gEq (.str "loose") (.str "answer") = some (.val (.bl false)) := by kernel_rfl
  have g5 : gEq (.str "answer") (.str "answer") = some (.val (.bl true)) := by kernel_rfl
  have hrg : rangeOk (t.en.length : Int) = true := rangeOk_small (by omega) (by omega)
  have hlen2 : ((rowsL s.toNat t.pl.toNat).map dS).length = t.en.length := by rw [List.length_map, hlen]
  have hL : looseL [t] = if looseE t.en then some x else none := by rw [← hnm]; rfl
  rw [hL] at e3
  have i0 : dT t = .tup [.str t.nm, .int t.pl, .tup (t.en.map dS)] := rfl
  have iE : D.imms (t.en.map dS) = true := imms_dS
  have hd : ∀ v, compGo [12] (putSlot 12) (mPure true) (mIx (mVar 12) (mC (.int 0))) ((t.en.map dS).map .val) [] ([.bor (matD s de ts), .sh (.int s), q (.lst (ts.map dT)), .sh (.str x), .own (.lst [dT t]), .no, .sh (.int t.pl), .sh (.tup (t.en.map dS)), v, .no, .no, .no] ++ [.no]) = .ok (.fresh (.lst ((t.en.map hd0).map .int))) ([.bor (matD s de ts), .sh (.int s), q (.lst (ts.map dT)), .sh (.str x), .own (.lst [dT t]), .no, .sh (.int t.pl), .sh (.tup (t.en.map dS)), v, .no, .no, .no] ++ [.no]) := fun v => hd_comp _ .no t.en rfl (by omega) p4
  simp only [List.cons_append, List.nil_append] at hd
  simp only [Option.toList, List.map_cons, List.map_nil] at e1 e3
  obtain ⟨v9, hk, hr⟩ : ∃ v9, kindL v9 (.lst ((rowsL s.toNat t.pl.toNat).map dS)) ∧ (r = .val (.lst ((rowsL s.toNat t.pl.toNat).map dS)) ∧ v9 = .sh (.lst ((rowsL s.toNat t.pl.toNat).map dS)) ∨ r = .fresh (.lst ((rowsL s.toNat t.pl.toNat).map dS)) ∧ v9 = .own (.lst ((rowsL s.toNat t.pl.toNat).map dS))) := by
    rcases hr with h | h
    · exact ⟨_, .inl rfl, .inl ⟨h, rfl⟩⟩
    · exact ⟨_, .inr rfl, .inr ⟨h, rfl⟩⟩
  unfold m__law_name_right b__law_name_right
  cases hl : looseE t.en with
  | true =>
    rw [hl, if_pos rfl] at e3 e6
    have x6 := ex_lo hx
    obtain ⟨v10, e8⟩ := rows_loop (de := de) hs hg hf (q (.lst (ts.map dT))) (.own (.lst [dT t])) (.sh (loT x)) v9 hk
    unfold loD at *
    dsimp only at e3 e5 e7
    unfold anT loT at *
    rcases hr with ⟨rfl, rfl⟩ | ⟨rfl, rfl⟩
    · rcases hq with rfl | rfl
      · simp -implicitDefEqProofs [-List.map_map, ix_dT0, ix_dT1, ix_dT2, iE, L2.atI, L2.ixN, hlen2, e1, e2, e3, e4, e5, e6, e7, e8, x5, x6, x7, im, hrg, g1, g2, g3, g4, g5, sizeN]
      · simp -implicitDefEqProofs [-List.map_map, ix_dT0, ix_dT1, ix_dT2, iE, L2.atI, L2.ixN, hlen2, hb, e1, e2, e3, e4, e5, e6, e7, e8, x5, x6, x7, im, hrg, g1, g2, g3, g4, g5, sizeN]
    · rcases hq with rfl | rfl
      · simp -implicitDefEqProofs [-List.map_map, ix_dT0, ix_dT1, ix_dT2, iE, L2.atI, L2.ixN, hlen2, e1, e2, e3, e4, e5, e6, e7, e8, x5, x6, x7, im, hrg, g1, g2, g3, g4, g5, sizeN]
      · simp -implicitDefEqProofs [-List.map_map, ix_dT0, ix_dT1, ix_dT2, iE, L2.atI, L2.ixN, hlen2, hb, e1, e2, e3, e4, e5, e6, e7, e8, x5, x6, x7, im, hrg, g1, g2, g3, g4, g5, sizeN]
  | false =>
    rw [hl, if_neg (by simp)] at e3 e6
    have x6 := ex_an (d := dS (t.en.map hd0)) (pl_dS (n := 5) (by rw [List.length_map]; omega))
    obtain ⟨v10, e8⟩ := rows_loop (de := de) hs hg hf (q (.lst (ts.map dT))) (.own (.lst [dT t])) (.sh (anT (dS (t.en.map hd0)))) v9 hk
    have hdv := hd (.sh (anT .non))
    unfold loD at *
    dsimp only at e3 e5 e7
    unfold anT at *
    have et : (.tup ((t.en.map hd0).map .int) : D) = dS (t.en.map hd0) := rfl
    rcases hr with ⟨rfl, rfl⟩ | ⟨rfl, rfl⟩
    · rcases hq with rfl | rfl
      · simp -implicitDefEqProofs [-List.map_map, ix_dT0, ix_dT1, ix_dT2, iE, L2.atI, L2.ixN, hlen2, hdv, et, e1, e2, e3, e4, e5, e6, e7, e8, x5, x6, x7, im, hrg, g1, g2, g3, g4, g5, sizeN]
      · simp -implicitDefEqProofs [-List.map_map, ix_dT0, ix_dT1, ix_dT2, iE, L2.atI, L2.ixN, hlen2, hdv, et, hb, e1, e2, e3, e4, e5, e6, e7, e8, x5, x6, x7, im, hrg, g1, g2, g3, g4, g5, sizeN]
    · rcases hq with rfl | rfl
      · simp -implicitDefEqProofs [-List.map_map, ix_dT0, ix_dT1, ix_dT2, iE, L2.atI, L2.ixN, hlen2, hdv, et, e1, e2, e3, e4, e5, e6, e7, e8, x5, x6, x7, im, hrg, g1, g2, g3, g4, g5, sizeN]
      · simp -implicitDefEqProofs [-List.map_map, ix_dT0, ix_dT1, ix_dT2, iE, L2.atI, L2.ixN, hlen2, hdv, et, hb, e1, e2, e3, e4, e5, e6, e7, e8, x5, x6, x7, im, hrg, g1, g2, g3, g4, g5, sizeN]
end
end G

namespace G
open PySem Av
section
variable {s : Int} {de : List Int} {ts : List Tb}
theorem name_right (hs : s234 s) (hg : Good s ts) {q : D → SV} (hq : lent q) {x : Str} (hx : PyData.strOk x = true) :
    m__law_name_right [.bor (matD s de ts), .sh (.int s), q (.lst (ts.map dT)), .sh (.str x)] = .ok (.val (.bl true)) [] := by
  cases h : fT ts x with
  | none => exact name_none hs hg hq hx h
  | some t => exact name_some hs hg hq hx h
theorem comp4 (a0 a1 a2 a3 v a5 : SV) (ts : List Tb) (hl : ts.length ≤ 100000) : compGo [4] (putSlot 4) (mPure true) (mVar 4) ((ts.map nmD).map .val) [] [a0, a1, a2, a3, v, a5] = .ok (.fresh (.lst (ts.map nmD))) [a0, a1, a2, a3, .no, a5] := by
  have h := comp_map (vs := [4]) (g := putSlot 4) (mt := mPure true) (me := mVar 4) (B := [a0, a1, a2, a3, .no, a5])
    (fun r => match r with | .val d => d | _ => .non) ((ts.map nmD).map .val) [] [a0, a1, a2, a3, v, a5] rfl (by rw [sizeN]; simp; omega) (fun r' hr => by
      obtain ⟨d, hd, rfl⟩ := List.mem_map.mp hr
      obtain ⟨t, ht, rfl⟩ := List.mem_map.mp hd
      refine ⟨[a0, a1, a2, a3, .sh (nmD t), a5], _, [a0, a1, a2, a3, .sh (nmD t), a5], ?_, rfl, ?_, rfl⟩
      · simp [nmD]
      · simp [nmD])
  have e : ((ts.map nmD).map RV.val).map (fun r => match r with | .val d => d | _ => .non) = ts.map nmD := by
    rw [List.map_map]
    exact (List.map_id _)
  rw [e] at h
  exact h
theorem comp5 (a0 a1 a2 a3 a4 v : SV) (ts : List Tb) (hl : ts.length ≤ 100000) : compGo [5] (putSlot 5) (mPure true) (mIx (mVar 5) (mC (.int 0))) ((ts.map dT).map .val) [] [a0, a1, a2, a3, a4, v] = .ok (.fresh (.lst (ts.map nmD))) [a0, a1, a2, a3, a4, .no] := by
  have h := comp_map (vs := [5]) (g := putSlot 5) (mt := mPure true) (me := mIx (mVar 5) (mC (.int 0))) (B := [a0, a1, a2, a3, a4, .no])
    (fun r => match r with | .val (.tup (d :: _)) => d | _ => .non) ((ts.map dT).map .val) [] [a0, a1, a2, a3, a4, v] rfl (by rw [sizeN]; simp; omega) (fun r hr => by
      obtain ⟨d, hd, rfl⟩ := List.mem_map.mp hr
      obtain ⟨t, ht, rfl⟩ := List.mem_map.mp hd
      refine ⟨[a0, a1, a2, a3, a4, .sh (dT t)], _, [a0, a1, a2, a3, a4, .sh (dT t)], ?_, rfl, ?_, rfl⟩
      · simp
      · simp [dT, L2.atI, L2.ixN])
  have e : ((ts.map dT).map RV.val).map (fun r => match r with | .val (.tup (d :: _)) => d | _ => .non) = ts.map nmD := by
    rw [List.map_map, List.map_map]
    rfl
  rw [e] at h
  exact h
theorem names_loop (hs : s234 s) (hg : Good s ts) {q : D → SV} (hq : lent q) (a3 v a5 : SV) (hv : canPut (some v) = true) (ks : List Str) (hk : ∀ k ∈ ks, PyData.strOk k = true) :
    ∃ v', forGo (putSlot 4) b__law_matrix_right_1 ((ks.map D.str).map .val) [.bor (matD s de ts), .sh (.int s), q (.lst (ts.map dT)), a3, v, a5] = .nx [.bor (matD s de ts), .sh (.int s), q (.lst (ts.map dT)), a3, v', a5] := by
  have im := @mat_imm s de ts
  induction ks generalizing v with
  | nil => exact ⟨v, rfl⟩
  | cons k ks ih =>
    obtain ⟨v', e⟩ := ih (.sh (.str k)) rfl fun k h => hk k (List.mem_cons_of_mem _ h)
    refine ⟨v', ?_⟩
    have h := name_right (de := de) hs hg hq (hk k List.mem_cons_self)
    rw [List.map_cons, List.map_cons, forGo_cons, ← e]
    conv => lhs; unfold b__law_matrix_right_1
    have iT : D.imms (ts.map dT) = true := imms_dT
    have ib : (D.lst (ts.map dT)).imm = false := rfl
    rcases hq with rfl | rfl
    · simp [-List.map_map, hv, im, h]
      rfl
    · simp [-List.map_map, hv, im, ib, h]
      rfl
theorem imm_strs {ks : List Str} : D.imms (ks.map D.str) = true := imms_all.mpr fun d hd => by
  obtain ⟨k, _, rfl⟩ := List.mem_map.mp hd
  rfl
theorem matrix_right (hs : s234 s) (hg : Good s ts) {q qa : D → SV} (hq : lent q) (hqa : lent qa) (ks : List Str) (hk : ∀ k ∈ ks, PyData.strOk k = true) :
    m__law_matrix_right [.bor (matD s de ts), .sh (.int s), q (.lst (ts.map dT)), qa (.lst (ks.map .str))] = .ok (.val (.bl true)) [] := by
  have hn := hg.n
  have im := @mat_imm s de ts
  have e1 := comp4 (.bor (matD s de ts)) (.sh (.int s)) (q (.lst (ts.map dT))) (qa (.lst (ks.map .str))) .no .no ts (by omega)
  have e2 := comp5 (.bor (matD s de ts)) (.sh (.int s)) (q (.lst (ts.map dT))) (qa (.lst (ks.map .str))) .no .no ts (by omega)
  obtain ⟨v', e3⟩ := names_loop (de := de) hs hg hq (qa (.lst (ks.map .str))) .no .no rfl ks hk
  have e4 := asked4 (s := s) (de := de) (ts := ts) "" (matD s de ts) (.tup [])
  have e5 := law_loose_eq hq ts fun t ht => by have := (hg.sh hs t ht).el; omega
  have x1 := exact_names ts (hg.sh hs) (by omega)
  have x2 : m__law_exact [.sh (loD (looseL ts)), .sh (loD (looseL ts))] = .ok (.val (.bl true)) [] := by
    cases h : looseL ts with
    | none => exact ex_an rfl
    | some x =>
      refine ex_lo ?_
      have : ∀ {ts : List Tb} {x : Str}, (∀ t ∈ ts, ShT 16 t) → looseL ts = some x → PyData.strOk x = true := by
        intro ts
        induction ts with
        | nil => intro x _ h; cases h
        | cons t ts ih =>
          intro x hs h
          have eL : looseL (t :: ts) = if looseE t.en then some t.nm else looseL ts := rfl
          rw [eL] at h
          split at h
          · cases h; exact (hs t List.mem_cons_self).no
          · exact ih (fun t h => hs t (List.mem_cons_of_mem _ h)) h
      exact this (hg.sh hs) h
  have iN : D.imms (ts.map nmD) = true := imN
  have bn := bor_map (xs := ts.map nmD) imN
  have bt := bor_map (xs := ts.map dT) imms_dT
  have bk := bor_map (xs := ks.map D.str) imm_strs
  have ib : (D.lst (ts.map dT)).imm = false := rfl
  have hd : (matD s de ts).obj? = some (("Matrix" : Str), fs7 s de ts) := rfl
  have il : (loD (looseL ts)).imm = true := by cases looseL ts <;> rfl
  unfold m__law_matrix_right b__law_matrix_right
  rcases hq with rfl | rfl <;> rcases hqa with rfl | rfl <;> simp -implicitDefEqProofs [-List.map_map, hd, ff4, iN, bn, bt, bk, ib, il, im, e1, e2, e3, e4, e5, x1, x2, sizeN]
end
end G

namespace G
open PySem Av
/-! the first name that differs, both ways -/
theorem sle_refl (x : Str) : sle x x = true := by
  unfold sle
  simp
theorem find_least {p : Str → Bool} : ∀ {l : List Str} {x : Str}, l.Pairwise (fun a b => sle a b = true) → l.find? p = some x → ∀ z ∈ l, p z = true → sle x z = true
  | [], x, _, h, _, hz, _ => nomatch hz
  | y :: l, x, hp, h, z, hz, pz => by
    obtain ⟨h1, h2⟩ := List.pairwise_cons.mp hp
    rw [List.find?_cons] at h
    cases hy : p y with
    | true =>
      rw [hy] at h
      cases h
      rcases List.mem_cons.mp hz with rfl | hz
      · exact sle_refl _
      · exact h1 z hz
    | false =>
      rw [hy] at h
      rcases List.mem_cons.mp hz with rfl | hz
      · rw [hy] at pz; cases pz
      · exact find_least h2 h z hz pz
theorem find_same {p p' : Str → Bool} {l l' : List Str} (h : l.Pairwise fun a b => sle a b = true) (h' : l'.Pairwise fun a b => sle a b = true) (hm : ∀ x, x ∈ l ↔ x ∈ l') (hp : ∀ x ∈ l, p x = p' x) : l.find? p = l'.find? p' := by
  cases e : l.find? p with
  | none =>
    rw [List.find?_eq_none] at e
    symm
    rw [List.find?_eq_none]
    intro x hx z
    have hx' := (hm x).mpr hx
    exact e x hx' (by rw [hp x hx']; exact z)
  | some x =>
    have hx := List.mem_of_find?_eq_some e
    have px := List.find?_some e
    cases e' : l'.find? p' with
    | none =>
      rw [List.find?_eq_none] at e'
      exact absurd (by rw [← hp x hx]; exact px) (e' x ((hm x).mp hx))
    | some y =>
      have hy := List.mem_of_find?_eq_some e'
      have py := List.find?_some e'
      have hy' := (hm y).mpr hy
      have a := find_least h e y hy' (by rw [hp y hy']; exact py)
      have b := find_least h' e' x ((hm x).mp hx) (by rw [← hp x hx]; exact px)
      rw [sle_anti a b]
def dif (ts us : List Tb) (x : Str) : Bool := match fT ts x, fT us x with
  | some t, some u => !decide (t.pl = u.pl)
  | _, _ => true
def dif' (ts us : List Tb) (x : Str) : Bool := !decide ((fT ts x).map (·.pl) = (fT us x).map (·.pl))
def nms (ts : List Tb) : List Str := ts.map (·.nm)
theorem fT_none {ts : List Tb} {x : Str} (h : x ∈ nms ts) : fT ts x ≠ none := fun z => by
  unfold fT at z
  rw [List.find?_eq_none] at z
  obtain ⟨t, ht, e⟩ := List.mem_map.mp h
  exact z t ht (by simpa using e)
theorem dif_eq {ts us : List Tb} {x : Str} (h : x ∈ nms ts ++ nms us) : dif ts us x = dif' ts us x := by
  unfold dif dif'
  cases h1 : fT ts x with
  | some t => cases h2 : fT us x <;> simp
  | none =>
    cases h2 : fT us x with
    | some u => simp
    | none =>
      rcases List.mem_append.mp h with h | h
      · exact absurd h1 (fT_none h)
      · exact absurd h2 (fT_none h)
def unl (ts us : List Tb) : Option Str := (usortS (nms ts ++ nms us)).find? (dif ts us)
theorem unl_eq (ts us : List Tb) : unl ts us = (isort sle (nms ts ++ nms us)).find? (dif' ts us) :=
  find_same usortS_sorted (isort_pairwise sle_total) (fun x => by rw [usortS_mem, isort_mem]) fun x hx => dif_eq (usortS_mem.mp hx)
theorem ne_int (a b : Int) : gNe (.int a) (.int b) = some (.val (.bl (!decide (a = b)))) := by
  unfold gNe
  rw [show (D.int a).okN 64 = true from rfl, show (D.int b).okN 64 = true from rfl]
  rfl
section
variable {s s' : Int} {de de' : List Int} {ts us : List Tb}
theorem in_tup {neg : Bool} {ks : List Str} {x : Str} (hx : PyData.strOk x = true) (h : ∀ k ∈ ks, PyData.strOk k = true) : gIn neg (.str x) (.tup (ks.map .str)) = some (.val (.bl (neg.xor (ks.any (· == x))))) := by
  have := in_names (neg := neg) hx h
  unfold gIn at this ⊢
  exact this
theorem kind_loop (hd : (ts.map (·.nm)).Nodup) (hd' : (us.map (·.nm)).Nodup) (hk : ∀ k ∈ nms ts ++ nms us, PyData.strOk k = true) (v : SV) (hv : canPut (some v) = true) (ks : List Str) (hks : ∀ k ∈ ks, PyData.strOk k = true) :
    ∃ sd, forGo (putSlot 2) b_need_one_kind_1 ((ks.map D.str).map .val) [.bor (matD s de ts), .bor (matD s' de' us), v] = match ks.find? (dif ts us) with
      | none => .nx sd
      | some x => .exc (xn "Unlike" x) sd := by
  induction ks generalizing v with
  | nil => exact ⟨_, rfl⟩
  | cons k ks ih =>
    have hk1 : ∀ y ∈ ts.map (·.nm), PyData.strOk y = true := fun y hy => hk y (List.mem_append_left _ hy)
    have hk2 : ∀ y ∈ us.map (·.nm), PyData.strOk y = true := fun y hy => hk y (List.mem_append_right _ hy)
    have i1 := in_tup (neg := true) (hks k List.mem_cons_self) hk1
    have i2 := in_tup (neg := true) (hks k List.mem_cons_self) hk2
    rw [any_find, ← names_str] at i1 i2
    have p1 := places_eq (s := s) (de := de) (q := .bor) (.inr rfl) hd k
    have p2 := places_eq (s := s') (de := de') (q := .bor) (.inr rfl) hd' k
    have n1 := (nofld (s := s) (de := de) (ts := ts)).1
    have n2 := (nofld (s := s') (de := de') (ts := us)).1
    have iN := @imN ts
    have iN' := @imN us
    unfold matD at *
    rw [List.map_cons, List.map_cons, forGo_cons, List.find?_cons]
    have eb : dif ts us k = true → ∃ sd, b_need_one_kind_1 [.bor (.obj "Matrix" (fs7 s de ts)), .bor (.obj "Matrix" (fs7 s' de' us)), .sh (.str k)] = .exc (xn "Unlike" k) sd := fun hb => by
      unfold dif at hb
      unfold b_need_one_kind_1 xn
      cases h1 : fT ts k with
      | none =>
        rw [h1] at i1
        exact ⟨_, by simp [-List.map_map, fm4, ff4, iN, iN', i1]; rfl⟩
      | some t =>
        cases h2 : fT us k with
        | none =>
          rw [h1] at i1
          rw [h2] at i2
          exact ⟨_, by simp [-List.map_map, fm4, ff4, iN, iN', i1, i2]; rfl⟩
        | some u =>
          rw [h1, h2] at hb
          rw [h1] at i1 p1
          rw [h2] at i2 p2
          have hne : ¬ t.pl = u.pl := by simpa using hb
          exact ⟨_, by simp [-List.map_map, fm4, ff4, iN, iN', i1, i2, n1, n2, p1, p2, ne_int, hne]; rfl⟩
    have ec : dif ts us k = false → b_need_one_kind_1 [.bor (.obj "Matrix" (fs7 s de ts)), .bor (.obj "Matrix" (fs7 s' de' us)), .sh (.str k)] = .nx [.bor (.obj "Matrix" (fs7 s de ts)), .bor (.obj "Matrix" (fs7 s' de' us)), .sh (.str k)] := fun hb => by
      unfold dif at hb
      unfold b_need_one_kind_1
      cases h1 : fT ts k with
      | none => rw [h1] at hb; cases hb
      | some t =>
        cases h2 : fT us k with
        | none => rw [h1, h2] at hb; cases hb
        | some u =>
          rw [h1, h2] at hb
          rw [h1] at i1 p1
          rw [h2] at i2 p2
          have hne : t.pl = u.pl := by simpa using hb
          simp [-List.map_map, fm4, ff4, iN, iN', i1, i2, n1, n2, p1, p2, ne_int, hne]
    have eg : putSlot 2 (.val (.str k)) [.bor (.obj "Matrix" (fs7 s de ts)), .bor (.obj "Matrix" (fs7 s' de' us)), v] = some [.bor (.obj "Matrix" (fs7 s de ts)), .bor (.obj "Matrix" (fs7 s' de' us)), .sh (.str k)] := by simp [hv]
    rw [eg, putB_some]
    cases hb : dif ts us k with
    | true =>
      obtain ⟨sd, e⟩ := eb hb
      rw [e, loopR_exc]
      exact ⟨sd, rfl⟩
    | false =>
      rw [ec hb, loopR_nx]
      exact ih (.sh (.str k)) rfl fun y hy => hks y (List.mem_cons_of_mem _ hy)
end
end G

namespace G
open PySem Av
section
variable {s s' : Int} {de de' : List Int} {ts us : List Tb}
theorem kind_eq (hd : (ts.map (·.nm)).Nodup) (hd' : (us.map (·.nm)).Nodup) (hk : ∀ k ∈ nms ts ++ nms us, PyData.strOk k = true) (hl : (nms ts ++ nms us).length ≤ 100) : m_need_one_kind [.bor (matD s de ts), .bor (matD s' de' us)] = match unl ts us with
    | none => .ok (.val .non) []
    | some x => .exc (xn "Unlike" x) [] := by
  obtain ⟨sd, e⟩ := kind_loop (s := s) (s' := s') (de := de) (de' := de') hd hd' hk .no rfl (usortS (nms ts ++ nms us)) fun k h => hk k (usortS_mem.mp h)
  have iN := @imN ts
  have iN' := @imN us
  have hs := sortSet_tup (ks := nms ts ++ nms us) (by omega)
  have ea : gAdd (.tup (ts.map nmD)) (.tup (us.map nmD)) = some (.val (.tup ((nms ts ++ nms us).map .str))) := by
    rw [names_str, names_str]
    have h1 : (ts.map (·.nm)).length + (us.map (·.nm)).length ≤ 100 := by simpa [nms] using hl
    simp only [List.length_map] at h1
    have : gAdd (.tup ((ts.map (·.nm)).map D.str)) (.tup ((us.map (·.nm)).map D.str)) = some (.val (.tup ((ts.map (·.nm)).map D.str ++ (us.map (·.nm)).map D.str))) := by
      simp [-List.map_map, sizeN, imm_strs]
      omega
    rw [this, ← List.map_append]
    rfl
  unfold unl
  have im1 : (D.obj "Matrix" (fs7 s de ts)).imm = false := rfl
  have im2 : (D.obj "Matrix" (fs7 s' de' us)).imm = false := rfl
  unfold matD at *
  unfold m_need_one_kind b_need_one_kind
  cases h : (usortS (nms ts ++ nms us)).find? (dif ts us) with
  | none =>
    rw [h] at e
    simp [-List.map_map, -List.map_append, -gAdd_tup, fm4, ff4, iN, iN', ea, hs, e]
  | some x =>
    rw [h] at e
    simp [-List.map_map, -List.map_append, -gAdd_tup, fm4, ff4, iN, iN', ea, hs, e]
def unD (o : Option Str) : D := match o with
  | none => anT .non
  | some x => unT x
theorem asked5 (hd : (ts.map (·.nm)).Nodup) (hd' : (us.map (·.nm)).Nodup) (hk : ∀ k ∈ nms ts ++ nms us, PyData.strOk k = true) (hl : (nms ts ++ nms us).length ≤ 100) (x : Str) (r : D) :
    m__law_asked [.sh (.int 5), .bor (matD s de ts), .bor (matD s' de' us), .sh (.str x), .sh r] = .ok (.val (unD (unl ts us))) [] := by
  have h1 := kind_eq (s := s) (s' := s') (de := de) (de' := de') hd hd' hk hl
  have k1 := ki3
  unfold menuK at k1
  have im := @mat_imm s de ts
  have im' := @mat_imm s' de' us
  unfold m__law_asked b__law_asked unD anT unT
  cases e : unl ts us with
  | none =>
    rw [e] at h1
    simp [h1, sizeN, im, im']
  | some y =>
    rw [e] at h1
    simp [h1, im, im', tryR_exc (ta3 y), kn3, k1, tv3, tn, tf3, tl, sizeN, L2.atI, L2.ixN]
/-! the law's own -/
theorem sort_strs (ks : List Str) : sortD (ks.map D.str) = (isort sle ks).map D.str := by
  unfold sortD
  exact (isort_map (le := sle) (le' := D.le) D.str fun x _ y _ => rfl).symm
theorem sortOk_strs {ks : List Str} (h : ∀ k ∈ ks, PyData.strOk k = true) : sortOk (ks.map D.str) = true := by
  unfold sortOk
  simp only [Bool.and_eq_true, Bool.or_eq_true, List.all_eq_true]
  refine ⟨⟨⟨okNs_strs h, imm_strs⟩, .inr fun d hd => ?_⟩, fun d hd e he => ?_⟩
  · obtain ⟨k, _, rfl⟩ := List.mem_map.mp hd
    rfl
  · obtain ⟨k, _, rfl⟩ := List.mem_map.mp hd
    obtain ⟨k', _, rfl⟩ := List.mem_map.mp he
    rfl
theorem pls_fil (a0 a1 a3 v : SV) (x : Str) (hx : PyData.strOk x = true) (ts : List Tb) (hl : ts.length ≤ 100000) (hs : ∀ t ∈ ts, PyData.strOk t.nm = true) :
    compGo [4] (putSlot 4) (mCmpT gEq (mIx (mVar 4) (mC (.int 0))) (mVar 2)) (mIx (mVar 4) (mC (.int 1))) ((ts.map dT).map .val) [] [a0, a1, .sh (.str x), a3, v] =
    .ok (.fresh (.lst ((ts.filter fun t => t.nm == x).map fun t => D.int t.pl))) [a0, a1, .sh (.str x), a3, .no] := by
  have h := comp_fil (vs := [4]) (g := putSlot 4) (mt := mCmpT gEq (mIx (mVar 4) (mC (.int 0))) (mVar 2)) (me := mIx (mVar 4) (mC (.int 1))) (B := [a0, a1, .sh (.str x), a3, .no])
    (fun r => match r with | .val (.tup (.str y :: _)) => y == x | _ => false) (fun r => match r with | .val (.tup (_ :: d :: _)) => d | _ => .non) ((ts.map dT).map .val) [] [a0, a1, .sh (.str x), a3, v] rfl (by rw [sizeN]; simp; omega) (fun r hr => by
      obtain ⟨d, hd, rfl⟩ := List.mem_map.mp hr
      obtain ⟨t, ht, rfl⟩ := List.mem_map.mp hd
      refine ⟨[a0, a1, .sh (.str x), a3, .sh (dT t)], [a0, a1, .sh (.str x), a3, .sh (dT t)], ?_, ?_, fun _ => rfl, fun _ => ⟨[a0, a1, .sh (.str x), a3, .sh (dT t)], ?_, rfl⟩⟩
      · simp
      · unfold dT
        simp [L2.atI, L2.ixN, eq_strs (hs t ht) hx]
      · unfold dT
        simp [L2.atI, L2.ixN])
  rw [h, List.nil_append]
  have e : ((ts.map dT).map RV.val).filter (fun r => match r with | .val (.tup (.str y :: _)) => y == x | _ => false) = ((ts.filter fun t => t.nm == x).map dT).map RV.val := by
    rw [List.map_map, List.filter_map, List.map_map]
    rfl
  rw [e, List.map_map, List.map_map]
  rfl
theorem ne_opt (o o' : Option Int) : gNe (.lst (o.toList.map .int)) (.lst (o'.toList.map .int)) = some (.val (.bl (!decide (o = o')))) := by
  unfold gNe
  cases o with
  | none => cases o' <;> simp [Option.toList, D.okN, D.okNs, D.eqv, D.eqvs]
  | some a => cases o' with
    | none => simp [Option.toList, D.okN, D.okNs, D.eqv, D.eqvs]
    | some b => simp [Option.toList, D.okN, D.okNs, D.eqv, D.eqvs]; rfl
theorem unlike_turn {q q' : D → SV} (hq : lent q) (hq' : lent q') (hd : (ts.map (·.nm)).Nodup) (hd' : (us.map (·.nm)).Nodup) (hk : ∀ k ∈ nms ts ++ nms us, PyData.strOk k = true) (hl : ts.length ≤ 100000) (hl' : us.length ≤ 100000) {x : Str} (hx : PyData.strOk x = true) (v3 : SV) (h3 : canPut (some v3) = true) :
    ∃ v3', canPut (some v3') = true ∧ b__law_unlike_1 [q (.lst (ts.map dT)), q' (.lst (us.map dT)), .sh (.str x), v3, .no] = if dif' ts us x then .ret (.val (unT x)) [q (.lst (ts.map dT)), q' (.lst (us.map dT)), .sh (.str x), v3', .no] else .nx [q (.lst (ts.map dT)), q' (.lst (us.map dT)), .sh (.str x), v3', .no] := by
  have f1 := pls_fil (q (.lst (ts.map dT))) (q' (.lst (us.map dT))) v3 .no x hx ts hl fun t ht => hk t.nm (List.mem_append_left _ (List.mem_map.mpr ⟨t, ht, rfl⟩))
  have f2 := pls_fil (q (.lst (ts.map dT))) (q' (.lst (us.map dT))) (.own (.lst ((fT ts x).toList.map fun t => D.int t.pl))) .no x hx us hl' fun t ht => hk t.nm (List.mem_append_right _ (List.mem_map.mpr ⟨t, ht, rfl⟩))
  rw [filter_find x hd] at f1
  rw [filter_find x hd'] at f2
  have hne := ne_opt ((fT ts x).map (·.pl)) ((fT us x).map (·.pl))
  have t1 : ∀ o : Option Tb, (o.map (·.pl)).toList.map D.int = o.toList.map fun t => D.int t.pl := fun o => by cases o <;> rfl
  rw [t1, t1] at hne
  have bt := bor_map (xs := ts.map dT) imms_dT
  have bu := bor_map (xs := us.map dT) imms_dT
  refine ⟨.own (.lst ((fT ts x).toList.map fun t => D.int t.pl)), rfl, ?_⟩
  unfold b__law_unlike_1 dif' unT
  generalize (fT ts x).toList.map (fun t => D.int t.pl) = A at *
  generalize (fT us x).toList.map (fun t => D.int t.pl) = B at *
  cases hdd : decide ((fT ts x).map (·.pl) = (fT us x).map (·.pl)) with
  | true =>
    rw [hdd] at hne
    rcases hq with rfl | rfl <;> rcases hq' with rfl | rfl <;> simp -implicitDefEqProofs [-List.map_map, bt, bu, f1, f2, h3, hne, sizeN]
  | false =>
    rw [hdd] at hne
    rcases hq with rfl | rfl <;> rcases hq' with rfl | rfl <;> simp -implicitDefEqProofs [-List.map_map, bt, bu, f1, f2, h3, hne, sizeN]
end
end G

namespace G
open PySem Av
section
variable {s s' : Int} {de de' : List Int} {ts us : List Tb}
theorem nms_comp (a0 a1 a2 a3 v : SV) (ts : List Tb) (hl : ts.length ≤ 100000) : compGo [4] (putSlot 4) (mPure true) (mIx (mVar 4) (mC (.int 0))) ((ts.map dT).map .val) [] [a0, a1, a2, a3, v] = .ok (.fresh (.lst ((nms ts).map .str))) [a0, a1, a2, a3, .no] := by
  have h := comp_map (vs := [4]) (g := putSlot 4) (mt := mPure true) (me := mIx (mVar 4) (mC (.int 0))) (B := [a0, a1, a2, a3, .no])
    (fun r => match r with | .val (.tup (d :: _)) => d | _ => .non) ((ts.map dT).map .val) [] [a0, a1, a2, a3, v] rfl (by rw [sizeN]; simp; omega) (fun r hr => by
      obtain ⟨d, hd, rfl⟩ := List.mem_map.mp hr
      obtain ⟨t, ht, rfl⟩ := List.mem_map.mp hd
      refine ⟨[a0, a1, a2, a3, .sh (dT t)], _, [a0, a1, a2, a3, .sh (dT t)], ?_, rfl, ?_, rfl⟩
      · simp
      · simp [dT, L2.atI, L2.ixN])
  have e : ((ts.map dT).map RV.val).map (fun r => match r with | .val (.tup (d :: _)) => d | _ => .non) = (nms ts).map .str := by
    unfold nms
    rw [List.map_map, List.map_map, List.map_map]
    rfl
  rw [e] at h
  exact h
theorem unlike_loop {q q' : D → SV} (hq : lent q) (hq' : lent q') (hd : (ts.map (·.nm)).Nodup) (hd' : (us.map (·.nm)).Nodup) (hk : ∀ k ∈ nms ts ++ nms us, PyData.strOk k = true) (hl : ts.length ≤ 100000) (hl' : us.length ≤ 100000) (v2 v3 : SV) (h2 : canPut (some v2) = true) (h3 : canPut (some v3) = true) (ks : List Str) (hks : ∀ k ∈ ks, PyData.strOk k = true) :
    ∃ sd, forGo (putSlot 2) b__law_unlike_1 ((ks.map D.str).map .val) [q (.lst (ts.map dT)), q' (.lst (us.map dT)), v2, v3, .no] = match ks.find? (dif' ts us) with
      | none => .nx sd
      | some x => .ret (.val (unT x)) sd := by
  induction ks generalizing v2 v3 with
  | nil => exact ⟨_, rfl⟩
  | cons k ks ih =>
    obtain ⟨w3, c3, e⟩ := unlike_turn hq hq' hd hd' hk hl hl' (hks k List.mem_cons_self) v3 h3
    have eg : putSlot 2 (.val (.str k)) [q (.lst (ts.map dT)), q' (.lst (us.map dT)), v2, v3, .no] = some [q (.lst (ts.map dT)), q' (.lst (us.map dT)), .sh (.str k), v3, .no] := by simp [h2]
    rw [List.map_cons, List.map_cons, forGo_cons, eg, putB_some, e, List.find?_cons]
    cases h : dif' ts us k with
    | true => rw [if_pos rfl, loopR_ret]; exact ⟨_, rfl⟩
    | false => rw [if_neg (by simp), loopR_nx]; exact ih _ _ rfl c3 fun k h => hks k (List.mem_cons_of_mem _ h)
theorem unlike_eq {q q' : D → SV} (hq : lent q) (hq' : lent q') (hd : (ts.map (·.nm)).Nodup) (hd' : (us.map (·.nm)).Nodup) (hk : ∀ k ∈ nms ts ++ nms us, PyData.strOk k = true) (hl : ts.length ≤ 100) (hl' : us.length ≤ 100) :
    m__law_unlike [q (.lst (ts.map dT)), q' (.lst (us.map dT))] = .ok (.val (unD (unl ts us))) [] := by
  have hks : ∀ k ∈ isort sle (nms ts ++ nms us), PyData.strOk k = true := fun k h => hk k (isort_mem.mp h)
  obtain ⟨sd, e⟩ := unlike_loop hq hq' hd hd' hk (by omega) (by omega) .no .no rfl rfl _ hks
  have bt := bor_map (xs := ts.map dT) imms_dT
  have bu := bor_map (xs := us.map dT) imms_dT
  have c1 := nms_comp (q (.lst (ts.map dT))) (q' (.lst (us.map dT))) .no .no .no ts (by omega)
  have c2 := nms_comp (q (.lst (ts.map dT))) (q' (.lst (us.map dT))) .no .no .no us (by omega)
  have ea : gAdd (.lst ((nms ts).map .str)) (.lst ((nms us).map .str)) = some (.fresh (.lst ((nms ts ++ nms us).map .str))) := by
    have h1 : (nms ts).length + (nms us).length ≤ 200 := by unfold nms; simp; omega
    have : gAdd (.lst ((nms ts).map D.str)) (.lst ((nms us).map D.str)) = some (.fresh (.lst ((nms ts).map D.str ++ (nms us).map D.str))) := by
      simp [-List.map_map, sizeN, imm_strs]
      omega
    rw [this, ← List.map_append]
  have es : gSorted [.lst ((nms ts ++ nms us).map .str)] = some (.fresh (.lst ((isort sle (nms ts ++ nms us)).map .str))) := by
    unfold gSorted
    dsimp only
    rw [if_pos (sortOk_strs hk), sort_strs]
  rw [unl_eq]
  unfold m__law_unlike b__law_unlike unD anT
  cases h : (isort sle (nms ts ++ nms us)).find? (dif' ts us) with
  | none =>
    rw [h] at e
    rcases hq with rfl | rfl <;> rcases hq' with rfl | rfl <;> simp -implicitDefEqProofs [-List.map_map, -List.map_append, bt, bu, c1, c2, ea, es, e, sizeN]
  | some x =>
    rw [h] at e
    rcases hq with rfl | rfl <;> rcases hq' with rfl | rfl <;> simp -implicitDefEqProofs [-List.map_map, -List.map_append, bt, bu, c1, c2, ea, es, e, sizeN]
end
end G

namespace G
open PySem Av
/-! pairs of names and places, and their changes -/
theorem cut_map {α β : Type} {f : α → β} {xs : List α} {lo hi : Option Int} : cutD (xs.map f) lo hi = (cutD xs lo hi).map f := by
  unfold cutD
  rw [List.length_map, List.map_take, List.map_drop]
theorem cut_to {α : Type} {xs : List α} (k : Nat) : cutD xs none (some (k : Int)) = xs.take k := by
  unfold cutD
  rw [HT.sIx_none, HT.sIx_nat, List.drop_zero, Nat.sub_zero, ← List.take_eq_take_min]
theorem cut_from {α : Type} {xs : List α} (k : Nat) : cutD xs (some (k : Int)) none = xs.drop k := by
  unfold cutD
  rw [HT.sIx_none, HT.sIx_nat]
  by_cases h : k ≤ xs.length
  · rw [Nat.min_eq_left h]
    apply List.take_of_length_le
    rw [List.length_drop]
    omega
  · rw [Nat.min_eq_right (by omega), List.drop_length, List.take_nil, List.drop_eq_nil_of_le (by omega)]
/-! names -/
structure Lt (m n : Nat) (x : Str) : Prop where
  lo : m ≤ x.length
  hi : x.length ≤ n
  al : x.cps.toList.all letter = true
theorem nmOk_iff {x : Str} : nmOk x = true ↔ Lt 2 8 x := by
  unfold nmOk
  rw [Bool.and_eq_true, Bool.and_eq_true, decide_eq_true_eq, decide_eq_true_eq]
  exact ⟨fun h => ⟨h.1.1, h.1.2, h.2⟩, fun h => ⟨⟨h.lo, h.hi⟩, h.al⟩⟩
theorem Lt.app {a b c d : Nat} {x y : Str} (h : Lt a b x) (h' : Lt c d y) : Lt (a + c) (b + d) (x ++ y) :=
  ⟨by rw [len_append]; have := h.lo; have := h'.lo; omega, by rw [len_append]; have := h.hi; have := h'.hi; omega, by rw [toL_append, List.all_append, h.al, h'.al]; rfl⟩
theorem Lt.mono {a b c d : Nat} {x : Str} (h : Lt a b x) (h1 : c ≤ a) (h2 : b ≤ d) : Lt c d x := ⟨Nat.le_trans h1 h.lo, Nat.le_trans h.hi h2, h.al⟩
theorem Lt.one {c : Nat} (h : letter c = true) : Lt 1 1 ⟨#[c]⟩ := ⟨Nat.le_refl _, Nat.le_refl _, by simp [h]⟩
theorem cut_str {x : Str} {lo hi : Option Int} : (L2.cutS x lo hi).cps.toList = cutD x.cps.toList lo hi ∧ (L2.cutS x lo hi).length = (cutD x.cps.toList lo hi).length := by
  unfold L2.cutS cutD
  have : x.cps.toList.length = x.length := by simp [Str.length]
  rw [this]
  exact ⟨rfl, by show (List.toArray _).size = _; rw [List.size_toArray]⟩
theorem cut_mem {α : Type} {xs : List α} {lo hi : Option Int} {x : α} (h : x ∈ cutD xs lo hi) : x ∈ xs := by
  unfold cutD at h
  exact List.mem_of_mem_drop (List.mem_of_mem_take h)
theorem Lt.cut {a b : Nat} {x : Str} (h : Lt a b x) (lo hi : Option Int) (c d : Nat) (h1 : c ≤ (L2.cutS x lo hi).length) (h2 : (L2.cutS x lo hi).length ≤ d) : Lt c d (L2.cutS x lo hi) := ⟨h1, h2, by
  rw [cut_str.1, List.all_eq_true]
  intro y hy
  exact List.all_eq_true.mp h.al y (cut_mem hy)⟩
theorem len_toL (x : Str) : x.cps.toList.length = x.length := by simp [Str.length]
theorem cutl_back {x : Str} (h : 1 ≤ x.length) : (L2.cutS x none (some (-1))).length = x.length - 1 := by
  rw [cut_str.2]
  unfold cutD
  rw [HT.sIx_none, List.drop_zero, Nat.sub_zero, List.length_take, len_toL]
  show min (HT.sIx x.length x.length (some (-1))) x.length = _
  show min (if (-1 : Int) < 0 then ((-1 : Int) + (x.length : Int)).toNat else min (-1 : Int).toNat x.length) x.length = _
  rw [if_pos (by decide)]
  omega
theorem cutl_to {x : Str} (k : Nat) : (L2.cutS x none (some (k : Int))).length = min k x.length := by
  rw [cut_str.2, cut_to, List.length_take, len_toL]
theorem cutl_from {x : Str} (k : Nat) : (L2.cutS x (some (k : Int)) none).length = x.length - k := by
  rw [cut_str.2, cut_from, List.length_drop, len_toL]
def nearL (x c : Str) : List Str := [L2.cutS x none (some (-1)) ++ c, c ++ L2.cutS x (some 1) none, L2.cutS (x ++ c) none (some 8), c ++ L2.cutS x none (some 7)]
theorem near_ok {x c : Str} (hx : Lt 2 8 x) (hc : Lt 1 1 c) : ∀ y ∈ nearL x c, Lt 2 8 y := fun y hy => by
  unfold nearL at hy
  have h1 := hx.lo
  have h2 := hx.hi
  have hcl : c.length = 1 := by have := hc.lo; have := hc.hi; omega
  simp only [List.mem_cons, List.not_mem_nil, or_false] at hy
  rcases hy with rfl | rfl | rfl | rfl
  · have e := cutl_back (x := x) (by omega)
    exact ((hx.cut none (some (-1)) 1 7 (by omega) (by omega)).app hc).mono (by omega) (by omega)
  · have e := cutl_from (x := x) 1
    exact (hc.app (hx.cut (some ((1 : Nat) : Int)) none 1 7 (by omega) (by omega))).mono (by omega) (by omega)
  · have e := cutl_to (x := x ++ c) 8
    rw [len_append] at e
    exact (hx.app hc).cut none (some ((8 : Nat) : Int)) 2 8 (by omega) (by omega)
  · have e := cutl_to (x := x) 7
    exact (hc.app (hx.cut none (some ((7 : Nat) : Int)) 1 7 (by omega) (by omega))).mono (by omega) (by omega)
theorem near_eq {st : D} (hs : Str3 st) {x : Str} (hx : Lt 2 8 x) : ∃ y st', Str3 st' ∧ Lt 2 8 y ∧ m__law_near_name [.io st, .sh (.str x)] = .ok (.val (.str y)) [st'] := by
  obtain ⟨d, st1, s1, d0, d1, e1⟩ := next_eq hs 26 (by omega) (by omega)
  obtain ⟨c, hc, hl⟩ := abc_at d0 d1
  obtain ⟨k, st2, s2, k0, k1, e2⟩ := next_eq s1 4 (by omega) (by omega)
  obtain ⟨k, rfl⟩ := Int.eq_ofNat_of_zero_le k0
  have hk : k < (nearL x ⟨#[c]⟩).length := by show k < 4; omega
  refine ⟨(nearL x ⟨#[c]⟩)[k], st2, s2, near_ok hx (Lt.one hl) _ (List.getElem_mem hk), ?_⟩
  have z26 : ("abcdefghijklmnopqrstuvwxyz" : Str).length ≤ 16777216 := by decide +kernel
  have hcl : (⟨#[c]⟩ : Str).length = 1 := rfl
  have h1 := hx.lo
  have h2 := hx.hi
  have q1 := cutl_back (x := x) (by omega)
  have q2 : (L2.cutS x (some 1) none).length = x.length - 1 := cutl_from (x := x) 1
  have q4 : (L2.cutS x none (some 7)).length = min 7 x.length := cutl_to (x := x) 7
  have a1 : (L2.cutS x none (some (-1))).length + 1 ≤ 16777216 := by omega
  have a2 : 1 + (L2.cutS x (some 1) none).length ≤ 16777216 := by omega
  have a3 : x.length + 1 ≤ 16777216 := by omega
  have a4 : 1 + (L2.cutS x none (some 7)).length ≤ 16777216 := by omega
  have a5 : x.length ≤ 16777216 := by omega
  have a6 : (x ++ (⟨#[c]⟩ : Str)).length ≤ 16777216 := by rw [len_append, hcl]; exact a3
  have hm : L2.atI ([.str (L2.cutS x none (some (-1)) ++ ⟨#[c]⟩), .str (⟨#[c]⟩ ++ L2.cutS x (some 1) none), .str (L2.cutS (x ++ ⟨#[c]⟩) none (some 8)), .str (⟨#[c]⟩ ++ L2.cutS x none (some 7))] : List D) (k : Int) = some (.str (nearL x ⟨#[c]⟩)[k]) := by
    have e : ([.str (L2.cutS x none (some (-1)) ++ ⟨#[c]⟩), .str (⟨#[c]⟩ ++ L2.cutS x (some 1) none), .str (L2.cutS (x ++ ⟨#[c]⟩) none (some 8)), .str (⟨#[c]⟩ ++ L2.cutS x none (some 7))] : List D) = (nearL x ⟨#[c]⟩).map .str := rfl
    rw [e, atI_at (by rw [List.length_map]; exact hk), List.getElem_map]
  unfold m__law_near_name b__law_near_name
  simp -implicitDefEqProofs [e1, ix_str, z26, hc, sizeN, hcl, a1, a2, a3, a4, a5, a6, e2, hm]
end G

namespace G
open PySem Av
def prD (p : Str × Int) : D := .tup [.str p.1, .int p.2]
theorem prD_imm {p : Str × Int} : (prD p).imm = true := rfl
theorem imms_prD {ps : List (Str × Int)} : D.imms (ps.map prD) = true := imms_all.mpr fun d hd => by
  obtain ⟨p, _, rfl⟩ := List.mem_map.mp hd
  rfl
structure PrOk (w : Int) (ps : List (Str × Int)) : Prop where
  nd : (ps.map (·.1)).Nodup
  nm : ∀ p ∈ ps, Lt 2 8 p.1
  pl : ∀ p ∈ ps, p03 p.2 ∧ (p.2 = 3 → w = 2)
  n : ps.length ≤ 6
def Lr (r : RV) (d : D) : Prop := r = .val d ∨ r = .fresh d
theorem gSl_P {ps : List (Str × Int)} {lo hi : Option Int} : gSl (.lst (ps.map prD)) lo hi = some (.fresh (.lst ((cutD ps lo hi).map prD))) := by
  rw [gSl_lst, imms_prD, if_pos rfl, cut_map]
theorem gAdd_P {xs ys : List (Str × Int)} (h : xs.length + ys.length ≤ 100000) : gAdd (.lst (xs.map prD)) (.lst (ys.map prD)) = some (.fresh (.lst ((xs ++ ys).map prD))) := by
  have : gAdd (.lst (xs.map prD)) (.lst (ys.map prD)) = some (.fresh (.lst (xs.map prD ++ ys.map prD))) := by
    simp [-List.map_map, sizeN, imms_prD]
    omega
  rw [this, ← List.map_append]
theorem at_P {ps : List (Str × Int)} {k : Nat} (h : k < ps.length) : L2.atI (ps.map prD) (k : Int) = some (prD ps[k]) := by
  rw [atI_at (by rw [List.length_map]; exact h), List.getElem_map]
theorem ix_P0 {r : RV} {p : Str × Int} {sd : List SV} : mIx2 r (prD p) (.int 0) sd = mGet (elemOf sd r.keep (.str p.1)) sd := by
  unfold prD
  simp [L2.atI, L2.ixN]
theorem ix_P1 {r : RV} {p : Str × Int} {sd : List SV} : mIx2 r (prD p) (.int 1) sd = mGet (elemOf sd r.keep (.int p.2)) sd := by
  unfold prD
  simp [L2.atI, L2.ixN]
theorem PrOk.sub {w : Int} {ps qs : List (Str × Int)} (h : PrOk w ps) (hs : qs.Sublist ps) : PrOk w qs :=
  ⟨(hs.map _).nodup h.nd, fun p hp => h.nm p (hs.subset hp), fun p hp => h.pl p (hs.subset hp), Nat.le_trans hs.length_le h.n⟩
theorem PrOk.perm {w : Int} {ps qs : List (Str × Int)} (h : PrOk w ps) (hs : qs.Perm ps) : PrOk w qs :=
  ⟨(hs.map _).nodup_iff.mpr h.nd, fun p hp => h.nm p (hs.mem_iff.mp hp), fun p hp => h.pl p (hs.mem_iff.mp hp), by rw [hs.length_eq]; exact h.n⟩
theorem PrOk.cons {w : Int} {ps : List (Str × Int)} {p : Str × Int} (h : PrOk w ps) (h1 : p.1 ∉ ps.map (·.1)) (h2 : Lt 2 8 p.1) (h3 : p03 p.2 ∧ (p.2 = 3 → w = 2)) (h4 : ps.length < 6) : PrOk w (p :: ps) :=
  ⟨List.nodup_cons.mpr ⟨h1, h.nd⟩, fun q hq => by
    rcases List.mem_cons.mp hq with rfl | hq
    · exact h2
    · exact h.nm q hq, fun q hq => by
    rcases List.mem_cons.mp hq with rfl | hq
    · exact h3
    · exact h.pl q hq, by rw [List.length_cons]; omega⟩
theorem split_at {α : Type} {ps : List α} {k : Nat} (h : k < ps.length) : (ps.take k ++ ps.drop (k + 1)).Sublist ps ∧ (ps[k] :: (ps.take k ++ ps.drop (k + 1))).Perm ps := by
  have e : ps = ps.take k ++ ps[k] :: ps.drop (k + 1) := by rw [List.getElem_cons_drop, List.take_append_drop]
  refine ⟨?_, ?_⟩
  · conv => rhs; rw [e]
    exact (List.Sublist.refl _).append (List.sublist_cons_self _ _)
  · conv => rhs; rw [e]
    exact List.perm_middle.symm
section
variable {st : D} {w : Int} {ps : List (Str × Int)}
theorem left_eq (hs : Str3 st) (h : PrOk w ps) (h0 : 0 < ps.length) : ∃ qs st', Str3 st' ∧ PrOk w qs ∧ m__law_left_out [.io st, .sh (.lst (ps.map prD))] = .ok (.fresh (.lst (qs.map prD))) [st'] := by
  have hn := h.n
  obtain ⟨k, st1, s1, k0, k1, e1⟩ := next_eq hs (ps.length : Int) (by omega) (by omega)
  obtain ⟨k, rfl⟩ := Int.eq_ofNat_of_zero_le k0
  have hk : k < ps.length := by omega
  refine ⟨ps.take k ++ ps.drop (k + 1), st1, s1, h.sub (split_at hk).1, ?_⟩
  have ea := gAdd_P (xs := ps.take k) (ys := ps.drop (k + 1)) (by rw [List.length_take, List.length_drop]; omega)
  have c1 := cut_to (xs := ps) k
  have c2 : cutD ps (some ((k : Int) + 1)) none = ps.drop (k + 1) := cut_from (xs := ps) (k + 1)
  unfold m__law_left_out b__law_left_out
  simp -implicitDefEqProofs [-List.map_map, -List.map_append, -List.map_take, -List.map_drop, -gAdd_lst, -gSl_lst, e1, gSl_P, c1, c2, ea]
theorem fst_comp (a0 a1 a2 a3 v : SV) (i : Nat) (hl : ps.length ≤ 100000) : compGo [4] (putSlot 4) (mPure true) (mIx (mVar 4) (mC (.int 0))) ((ps.map prD).map .val) [] [a0, a1, a2, a3, v] = .ok (.fresh (.lst ((ps.map (·.1)).map .str))) [a0, a1, a2, a3, .no] := by
  have h := comp_map (vs := [4]) (g := putSlot 4) (mt := mPure true) (me := mIx (mVar 4) (mC (.int 0))) (B := [a0, a1, a2, a3, .no])
    (fun r => match r with | .val (.tup (d :: _)) => d | _ => .non) ((ps.map prD).map .val) [] [a0, a1, a2, a3, v] rfl (by rw [sizeN]; simp; omega) (fun r hr => by
      obtain ⟨d, hd, rfl⟩ := List.mem_map.mp hr
      obtain ⟨t, ht, rfl⟩ := List.mem_map.mp hd
      refine ⟨[a0, a1, a2, a3, .sh (prD t)], _, [a0, a1, a2, a3, .sh (prD t)], ?_, rfl, ?_, rfl⟩
      · simp [prD]
      · simp [prD, L2.atI, L2.ixN])
  have e : ((ps.map prD).map RV.val).map (fun r => match r with | .val (.tup (d :: _)) => d | _ => .non) = (ps.map (·.1)).map .str := by
    rw [List.map_map, List.map_map, List.map_map]
    rfl
  rw [e] at h
  exact h
theorem Lt.str {a b : Nat} {x : Str} (h : Lt a b x) : PyData.strOk x = true := by
  show x.cps.all (· < 0x110000) = true
  rw [Array.all_eq_true']
  intro c hc
  have := List.all_eq_true.mp h.al c (by simpa using hc)
  unfold letter at this
  simp at this
  simp
  omega
theorem in_fst (h : PrOk w ps) {x : Str} (hx : Lt 2 8 x) : gIn false (.str x) (.lst ((ps.map (·.1)).map .str)) = some (.val (.bl ((ps.map (·.1)).any (· == x)))) := by
  have := in_names (neg := false) (ks := ps.map (·.1)) hx.str fun k hk => by
    obtain ⟨p, hp, rfl⟩ := List.mem_map.mp hk
    exact (h.nm p hp).str
  simpa using this
theorem not_any {ks : List Str} {x : Str} (h : ks.any (· == x) = false) : x ∉ ks := fun z => by
  have := List.any_eq_false.mp h x z
  simp at this
theorem more_eq (hs : Str3 st) (h : PrOk w ps) {x : Str} (hx : Lt 2 8 x) : ∃ qs st' r, Str3 st' ∧ PrOk w qs ∧ Lr r (.lst (qs.map prD)) ∧ m__law_one_more [.io st, .sh (.lst (ps.map prD)), .sh (.str x)] = .ok r [st'] := by
  have hn := h.n
  obtain ⟨k, st1, s1, k0, k1, e1⟩ := next_eq hs ((ps.length : Int) + 1) (by omega) (by omega)
  obtain ⟨k, rfl⟩ := Int.eq_ofNat_of_zero_le k0
  have hk : k ≤ ps.length := by omega
  have hc := fst_comp (ps := ps) (.io st1) (.sh (.lst (ps.map prD))) (.sh (.str x)) (.sh (.int k)) .no 0 (by omega)
  have hi := in_fst h hx
  by_cases h6 : (ps.length : Int) = 6
  · have e7 : (6 : Int) + 1 = 7 := rfl
    rw [h6, e7] at e1
    refine ⟨ps, st1, _, s1, h, .inl rfl, ?_⟩
    unfold m__law_one_more b__law_one_more
    simp -implicitDefEqProofs [-List.map_map, e1, h6]
  · cases ha : (ps.map (·.1)).any (· == x) with
    | true =>
      rw [ha] at hi
      refine ⟨ps, st1, _, s1, h, .inl rfl, ?_⟩
      unfold m__law_one_more b__law_one_more
      simp -implicitDefEqProofs [-List.map_map, e1, h6, hc, hi]
    | false =>
      rw [ha] at hi
      obtain ⟨p, st2, s2, p0, p1, e2⟩ := next_eq s1 3 (by omega) (by omega)
      have hp : p03 p ∧ (p = 3 → w = 2) := ⟨by unfold p03; omega, fun z => by omega⟩
      have perm : (ps.take k ++ [(x, p)] ++ ps.drop k).Perm ((x, p) :: ps) := by
        rw [List.append_assoc]
        conv => rhs; rw [← List.take_append_drop k ps]
        exact List.perm_middle
      refine ⟨ps.take k ++ [(x, p)] ++ ps.drop k, st2, _, s2, (h.cons (not_any ha) hx hp (by omega)).perm perm, .inr rfl, ?_⟩
      have ea := gAdd_P (xs := ps.take k) (ys := [(x, p)]) (by rw [List.length_take, List.length_singleton]; omega)
      have eb := gAdd_P (xs := ps.take k ++ [(x, p)]) (ys := ps.drop k) (by rw [List.length_append, List.length_take, List.length_drop, List.length_singleton]; omega)
      have ez : (.lst [.tup [.str x, .int p]] : D) = .lst ([(x, p)].map prD) := rfl
      have c1 := cut_to (xs := ps) k
      have c2 := cut_from (xs := ps) k
      unfold m__law_one_more b__law_one_more
      simp -implicitDefEqProofs [-List.map_map, -List.map_append, -List.map_take, -List.map_drop, -List.map_cons, -List.map_nil, -gAdd_lst, -gSl_lst, e1, h6, hc, hi, e2, gSl_P, c1, c2, ez, ea, eb, sizeN]
end
end G

namespace G
open PySem Av
section
variable {st : D} {w : Int} {ps : List (Str × Int)}
/-- one pair in the place of another one -/
theorem PrOk.put (h : PrOk w ps) {k : Nat} (hk : k < ps.length) {q : Str × Int} (h1 : q.1 = ps[k].1 ∨ q.1 ∉ ps.map (·.1)) (h2 : Lt 2 8 q.1) (h3 : p03 q.2 ∧ (q.2 = 3 → w = 2)) : PrOk w (ps.take k ++ [q] ++ ps.drop (k + 1)) := by
  obtain ⟨a, b⟩ := split_at hk
  have h' : PrOk w (ps[k] :: (ps.take k ++ ps.drop (k + 1))) := h.perm b
  have hs : PrOk w (ps.take k ++ ps.drop (k + 1)) := h.sub a
  have nd := h'.nd
  rw [List.map_cons, List.nodup_cons] at nd
  have hl := h'.n
  rw [List.length_cons] at hl
  have hc : PrOk w (q :: (ps.take k ++ ps.drop (k + 1))) := hs.cons (by
    rcases h1 with e | e
    · rw [e]; exact nd.1
    · exact fun z => e ((a.map _).subset z)) h2 h3 (by omega)
  refine hc.perm ?_
  rw [List.append_assoc]
  exact List.perm_middle
theorem put_facts {k : Nat} (hk : k < ps.length) (hn : ps.length ≤ 6) (q : Str × Int) :
    gAdd (.lst ((ps.take k).map prD)) (.lst ([q].map prD)) = some (.fresh (.lst ((ps.take k ++ [q]).map prD))) ∧ gAdd (.lst ((ps.take k ++ [q]).map prD)) (.lst ((ps.drop (k + 1)).map prD)) = some (.fresh (.lst ((ps.take k ++ [q] ++ ps.drop (k + 1)).map prD))) ∧
    cutD ps none (some (k : Int)) = ps.take k ∧ cutD ps (some ((k : Int) + 1)) none = ps.drop (k + 1) :=
  ⟨gAdd_P (by rw [List.length_take, List.length_singleton]; omega), gAdd_P (by rw [List.length_append, List.length_take, List.length_drop, List.length_singleton]; omega), cut_to k, cut_from (k + 1)⟩
theorem places_chg (hs : Str3 st) (h : PrOk w ps) (h0 : 0 < ps.length) : ∃ qs st', Str3 st' ∧ PrOk w qs ∧ m__law_other_places [.io st, .sh (.int w), .sh (.lst (ps.map prD))] = .ok (.fresh (.lst (qs.map prD))) [st'] := by
  have hn := h.n
  obtain ⟨k, st1, s1, k0, k1, e1⟩ := next_eq hs (ps.length : Int) (by omega) (by omega)
  obtain ⟨k, rfl⟩ := Int.eq_ofNat_of_zero_le k0
  have hk : k < ps.length := by omega
  obtain ⟨a, st2, s2, a0, a1, e2⟩ := next_eq s1 2 (by omega) (by omega)
  have i1 := at_P hk
  have hnm := h.nm ps[k] (List.getElem_mem hk)
  by_cases h2 : w = 2
  · obtain ⟨b, st3, s3, b0, b1, e3⟩ := next_eq s2 3 (by omega) (by omega)
    obtain ⟨ea, eb, c1, c2⟩ := put_facts hk hn (ps[k].1, (ps[k].2 + 1 + b) % 4)
    have ez : (.lst [.tup [.str ps[k].1, .int ((ps[k].2 + 1 + b) % 4)]] : D) = .lst ([(ps[k].1, (ps[k].2 + 1 + b) % 4)].map prD) := rfl
    refine ⟨_, st3, s3, h.put hk (q := (ps[k].1, (ps[k].2 + 1 + b) % 4)) (.inl rfl) hnm ⟨by unfold p03; omega, fun _ => h2⟩, ?_⟩
    unfold m__law_other_places b__law_other_places
    simp -implicitDefEqProofs [-List.map_map, -List.map_append, -List.map_take, -List.map_drop, -List.map_cons, -List.map_nil, -gAdd_lst, -gSl_lst, e1, i1, ix_P0, ix_P1, e2, h2, e3, gSl_P, c1, c2, ez, ea, eb, sizeN, prD_imm]
  · obtain ⟨ea, eb, c1, c2⟩ := put_facts hk hn (ps[k].1, (ps[k].2 + 1 + a) % 3)
    have ez : (.lst [.tup [.str ps[k].1, .int ((ps[k].2 + 1 + a) % 3)]] : D) = .lst ([(ps[k].1, (ps[k].2 + 1 + a) % 3)].map prD) := rfl
    refine ⟨_, st2, s2, h.put hk (q := (ps[k].1, (ps[k].2 + 1 + a) % 3)) (.inl rfl) hnm ⟨by unfold p03; omega, fun z => absurd z (by show ¬ (ps[k].2 + 1 + a) % 3 = 3; omega)⟩, ?_⟩
    unfold m__law_other_places b__law_other_places
    simp -implicitDefEqProofs [-List.map_map, -List.map_append, -List.map_take, -List.map_drop, -List.map_cons, -List.map_nil, -gAdd_lst, -gSl_lst, e1, i1, ix_P0, ix_P1, e2, h2, gSl_P, c1, c2, ez, ea, eb, sizeN, prD_imm]
theorem renamed_eq (hs : Str3 st) (h : PrOk w ps) (h0 : 0 < ps.length) : ∃ qs st' r, Str3 st' ∧ PrOk w qs ∧ Lr r (.lst (qs.map prD)) ∧ m__law_renamed [.io st, .sh (.lst (ps.map prD))] = .ok r [st'] := by
  have hn := h.n
  obtain ⟨k, st1, s1, k0, k1, e1⟩ := next_eq hs (ps.length : Int) (by omega) (by omega)
  obtain ⟨k, rfl⟩ := Int.eq_ofNat_of_zero_le k0
  have hk : k < ps.length := by omega
  have i1 := at_P hk
  have hnm := h.nm ps[k] (List.getElem_mem hk)
  obtain ⟨y, st2, s2, hy, e2⟩ := near_eq s1 hnm
  have hc := fst_comp (ps := ps) (.io st2) (.sh (.lst (ps.map prD))) (.sh (.int k)) (.sh (.str y)) .no 0 (by omega)
  have hi := in_fst h hy
  cases ha : (ps.map (·.1)).any (· == y) with
  | true =>
    rw [ha] at hi
    refine ⟨ps, st2, _, s2, h, .inl rfl, ?_⟩
    unfold m__law_renamed b__law_renamed
    simp -implicitDefEqProofs [-List.map_map, e1, i1, ix_P0, e2, hc, hi, prD_imm]
  | false =>
    rw [ha] at hi
    obtain ⟨ea, eb, c1, c2⟩ := put_facts hk hn (y, ps[k].2)
    have ez : (.lst [.tup [.str y, .int ps[k].2]] : D) = .lst ([(y, ps[k].2)].map prD) := rfl
    refine ⟨_, st2, _, s2, h.put hk (q := (y, ps[k].2)) (.inr (not_any ha)) hy (h.pl ps[k] (List.getElem_mem hk)), .inr rfl, ?_⟩
    unfold m__law_renamed b__law_renamed
    simp -implicitDefEqProofs [-List.map_map, -List.map_append, -List.map_take, -List.map_drop, -List.map_cons, -List.map_nil, -gAdd_lst, -gSl_lst, e1, i1, ix_P0, ix_P1, e2, hc, hi, gSl_P, c1, c2, ez, ea, eb, sizeN, prD_imm]
theorem nil_ok : PrOk w [] := ⟨List.nodup_nil, (fun p hp => nomatch hp), (fun p hp => nomatch hp), by simp⟩
theorem changed_eq (hs : Str3 st) (h : PrOk w ps) (way : Int) : ∃ qs st' r, Str3 st' ∧ PrOk w qs ∧ Lr r (.lst (qs.map prD)) ∧ m__law_changed [.io st, .sh (.int w), .sh (.lst (ps.map prD)), .sh (.int way)] = .ok r [st'] := by
  have hn := h.n
  by_cases h0 : (0 : Int) < ps.length
  · have h0' : 0 < ps.length := by omega
    by_cases w1 : way = 1
    · obtain ⟨qs, st1, s1, q1, e1⟩ := left_eq hs h h0'
      refine ⟨qs, st1, _, s1, q1, .inr rfl, ?_⟩
      unfold m__law_changed b__law_changed
      simp -implicitDefEqProofs [-List.map_map, w1, h0', e1]
    · by_cases w2 : way = 2
      · obtain ⟨qs, st1, s1, q1, e1⟩ := places_chg hs h h0'
        refine ⟨qs, st1, _, s1, q1, .inr rfl, ?_⟩
        unfold m__law_changed b__law_changed
        simp -implicitDefEqProofs [-List.map_map, w2, h0', e1]
      · by_cases w3 : way = 3
        · obtain ⟨x, st1, s1, hx, e1⟩ := name_eq hs
          obtain ⟨qs, st2, r, s2, q2, hr, e2⟩ := more_eq s1 h (nmOk_iff.mp hx)
          refine ⟨qs, st2, r, s2, q2, hr, ?_⟩
          unfold m__law_changed b__law_changed
          rcases hr with rfl | rfl <;> simp -implicitDefEqProofs [-List.map_map, w3, h0', e1, e2]
        · by_cases w4 : way = 4
          · obtain ⟨qs, st2, r, s2, q2, hr, e2⟩ := renamed_eq hs h h0'
            refine ⟨qs, st2, r, s2, q2, hr, ?_⟩
            unfold m__law_changed b__law_changed
            rcases hr with rfl | rfl <;> simp -implicitDefEqProofs [-List.map_map, w4, h0', e2]
          · by_cases w5 : way = 5
            · obtain ⟨k, st1, s1, k0, k1, e1⟩ := next_eq hs (ps.length : Int) (by omega) (by omega)
              obtain ⟨k, rfl⟩ := Int.eq_ofNat_of_zero_le k0
              have hk : k < ps.length := by omega
              have i1 := at_P hk
              obtain ⟨y, st2, s2, hy, e2⟩ := near_eq s1 (h.nm ps[k] (List.getElem_mem hk))
              obtain ⟨qs, st3, r, s3, q3, hr, e3⟩ := more_eq s2 h hy
              refine ⟨qs, st3, r, s3, q3, hr, ?_⟩
              unfold m__law_changed b__law_changed
              rcases hr with rfl | rfl <;> simp -implicitDefEqProofs [-List.map_map, w5, h0', e1, i1, ix_P0, e2, e3, prD_imm]
            · by_cases w6 : way = 6
              · refine ⟨[], st, _, hs, nil_ok, .inr rfl, ?_⟩
                unfold m__law_changed b__law_changed
                simp -implicitDefEqProofs [-List.map_map, w6, h0', sizeN]
              · refine ⟨ps, st, _, hs, h, .inl rfl, ?_⟩
                unfold m__law_changed b__law_changed
                simp -implicitDefEqProofs [-List.map_map, w1, w2, w3, w4, w5, w6, h0', sizeN]
  · have hp : ps = [] := List.eq_nil_of_length_eq_zero (by omega)
    subst hp
    by_cases w3 : way = 3
    · obtain ⟨x, st1, s1, hx, e1⟩ := name_eq hs
      obtain ⟨qs, st2, r, s2, q2, hr, e2⟩ := more_eq s1 h (nmOk_iff.mp hx)
      refine ⟨qs, st2, r, s2, q2, hr, ?_⟩
      rw [List.map_nil] at e2
      unfold m__law_changed b__law_changed
      rcases hr with rfl | rfl <;> simp -implicitDefEqProofs [-List.map_map, w3, e1, e2]
    · by_cases w6 : way = 6
      · refine ⟨[], st, _, hs, nil_ok, .inr rfl, ?_⟩
        unfold m__law_changed b__law_changed
        simp -implicitDefEqProofs [-List.map_map, w6, sizeN]
      · refine ⟨[], st, _, hs, h, .inl rfl, ?_⟩
        unfold m__law_changed b__law_changed
        simp -implicitDefEqProofs [-List.map_map, w3, w6, sizeN]
end
end G

namespace G
open PySem Av
def rgI (s : Int) : List Int := (List.range s.toNat).map fun (k : Nat) => (k : Int)
theorem rg_all {s : Int} (hs : s234 s) : (.tup (intsD 0 s.toNat) : D) = dS (rgI s) ∧ enOk s (rgI s) = true := by
  rcases hs with rfl | rfl | rfl <;> exact ⟨rfl, by decide⟩
theorem one_ok {s d : Int} (h0 : 0 ≤ d) (h1 : d < s) : enOk s [d] = true := by
  simp [enOk, sgI, h0, h1]
section
variable {st : D} {w : Int}
theorem ents_drawn (hs : Str3 st) (hw : s234 w) (n : Nat) (hn : n ≤ 16) (a1 a2 a3 a4 v6 a7 a8 a9 a10 a12 a13 : SV) (hv : canPut (some v6) = true) :
    ∃ (st' : D) (es : List (List Int)) (w6 : SV), Str3 st' ∧ canPut (some w6) = true ∧ es.length = n ∧ (∀ e ∈ es, enOk w e = true) ∧
      forGo (putSlot 6) b__law_other_2 (rangeItems 0 n) [.io st, a1, a2, a3, a4, .sh (.int w), v6, a7, a8, a9, a10, .own (.lst []), a12, a13] =
      .nx [.io st', a1, a2, a3, a4, .sh (.int w), w6, a7, a8, a9, a10, .own (.lst (es.map dS)), a12, a13] := by
  have hs0 : 0 < w ∧ w < 1073741824 := by rcases hw with h | h | h <;> omega
  have h := for_range (g := putSlot 6) (b := b__law_other_2) (lo := 0) (n := n)
    (fun i sd => ∃ (st : D) (es : List (List Int)) (w6 : SV), Str3 st ∧ canPut (some w6) = true ∧ es.length = i ∧ (∀ e ∈ es, enOk w e = true) ∧ sd = [.io st, a1, a2, a3, a4, .sh (.int w), w6, a7, a8, a9, a10, .own (.lst (es.map dS)), a12, a13])
    [.io st, a1, a2, a3, a4, .sh (.int w), v6, a7, a8, a9, a10, .own (.lst []), a12, a13] ⟨st, [], v6, hs, hv, rfl, (fun x hx => nomatch hx), rfl⟩
    (fun i sd hi ⟨st, es, w6, q1, q2, q3, q4, q5⟩ => by
      subst q5
      have hlt : es.length < 16777216 := by omega
      obtain ⟨d, st', s1, d0, d1, e⟩ := next_eq q1 w hs0.1 hs0.2
      refine ⟨[.io st', a1, a2, a3, a4, .sh (.int w), .sh (.int i), a7, a8, a9, a10, .own (.lst ((es ++ [[d]]).map dS)), a12, a13], ?_, st', es ++ [[d]], .sh (.int i), s1, rfl, by simp [q3], fun x hx => ?_, rfl⟩
      · unfold b__law_other_2
        simp [q2, e, sizeN, hlt, dS]
      · rcases List.mem_append.mp hx with hx | hx
        · exact q4 x hx
        · rw [List.mem_singleton.mp hx]
          exact one_ok d0 d1)
  obtain ⟨sd', e, st', es, w6, q1, q2, q3, q4, rfl⟩ := h
  exact ⟨st', es, w6, q1, q2, q3, q4, e⟩
theorem pow_facts {p : Int} (hw : s234 w) (hp : p03 p) (h3 : p = 3 → w = 2) : 0 < w ^ p.toNat ∧ w ^ p.toNat ≤ 16 := by
  rcases hp with rfl | rfl | rfl | rfl
  · rcases hw with rfl | rfl | rfl <;> decide
  · rcases hw with rfl | rfl | rfl <;> decide
  · rcases hw with rfl | rfl | rfl <;> decide
  · obtain rfl := h3 rfl
    decide
theorem other_turn (hs : Str3 st) (hw : s234 w) {x : Str} {p : Int} (hx : Lt 2 8 x) (hp : p03 p) (h3 : p = 3 → w = 2) (a1 a2 a3 a4 v6 a7 v11 a12 a13 : SV) (us : List Tb) (hu : us.length < 100) (h6 : canPut (some v6) = true) (h11 : canPut (some v11) = true) :
    ∃ (st' : D) (es : List (List Int)) (w6 w11 : SV), Str3 st' ∧ canPut (some w6) = true ∧ canPut (some w11) = true ∧ TbOk w ⟨x, p, es⟩ ∧
      b__law_other_3 [.io st, a1, a2, a3, a4, .sh (.int w), v6, a7, .own (.lst (us.map dT)), .sh (.str x), .sh (.int p), v11, a12, a13] =
      .nx [.io st', a1, a2, a3, a4, .sh (.int w), w6, a7, .own (.lst ((us ++ [(⟨x, p, es⟩ : Tb)]).map dT)), .sh (.str x), .sh (.int p), w11, a12, a13] := by
  obtain ⟨p1, p2⟩ := pow_facts hw hp h3
  have hu2 : us.length < 16777216 := by omega
  have hc := law_count_eq hw hp
  obtain ⟨n, hn⟩ := Int.eq_ofNat_of_zero_le (Int.le_of_lt p1)
  have hr : rangeOk (w ^ p.toNat) = true := rangeOk_small (by omega) (by omega)
  obtain ⟨st1, es, w6, s1, q6, el, eo, e1⟩ := ents_drawn hs hw n (by omega) a1 a2 a3 a4 v6 a7 (.own (.lst (us.map dT))) (.sh (.str x)) (.sh (.int p)) a12 a13 h6
  obtain ⟨d, st2, s2, d0, d1, e2⟩ := next_eq s1 4 (by omega) (by omega)
  have iT : D.imms (us.map dT) = true := imms_dT
  have ht : (w ^ p.toNat).toNat = n := by omega
  have hmk : ∀ es' : List (List Int), es'.length = n → (∀ e ∈ es', enOk w e = true) → TbOk w ⟨x, p, es'⟩ := fun es' h1 h2 => ⟨nmOk_iff.mpr hx, by
    unfold tabOk
    simp only [Bool.and_eq_true, decide_eq_true_eq, List.all_eq_true]
    have hp0 : 0 ≤ p ∧ p ≤ 3 := by rcases hp with h | h | h | h <;> omega
    exact ⟨⟨⟨⟨hp0.1, hp0.2⟩, p2⟩, by rw [h1, hn]⟩, h2⟩⟩
  by_cases hd : d = 0
  · obtain ⟨k, st3, s3, k0, k1, e3⟩ := next_eq s2 (es.length : Int) (by omega) (by omega)
    obtain ⟨k, rfl⟩ := Int.eq_ofNat_of_zero_le k0
    have hk : k < es.length := by omega
    obtain ⟨r1, r2⟩ := rg_all hw
    have hw2 : 0 ≤ w ∧ w ≤ 1000000 := by rcases hw with h | h | h <;> omega
    have ix : L2.ixN es.length (k : Int) = some k := by
      unfold L2.ixN
      rw [if_pos (by omega), if_pos (by omega)]
      simp
    have es2 : (es.map dS).set k (dS (rgI w)) = (es.set k (rgI w)).map dS := by rw [List.map_set]
    refine ⟨st3, es.set k (rgI w), w6, .own (.lst ((es.set k (rgI w)).map dS)), s3, q6, rfl, hmk _ (by rw [List.length_set]; exact el) (fun e he => ?_), ?_⟩
    · rcases List.mem_or_eq_of_mem_set he with h | h
      · exact eo e h
      · rw [h]; exact r2
    · rw [List.map_append]
      have ez : dT ⟨x, p, es.set k (rgI w)⟩ = .tup [.str x, .int p, .tup ((es.set k (rgI w)).map dS)] := rfl
      have iS : D.imms ((es.set k (rgI w)).map dS) = true := imms_dS
      unfold b__law_other_3
      simp -implicitDefEqProofs [-List.map_map, -List.map_set, h11, hc, hr, ht, e1, e2, hd, e3, hw2, r1, ix, es2, iS, ez, iT, hu2, sizeN]
  · refine ⟨st2, es, w6, .own (.lst (es.map dS)), s2, q6, rfl, hmk es el eo, ?_⟩
    rw [List.map_append]
    have ez : dT ⟨x, p, es⟩ = .tup [.str x, .int p, .tup (es.map dS)] := rfl
    have iS : D.imms (es.map dS) = true := imms_dS
    unfold b__law_other_3
    simp -implicitDefEqProofs [-List.map_map, h11, hc, hr, ht, e1, e2, hd, iS, ez, iT, hu2, sizeN]
end
end G

namespace G
open PySem Av
section
variable {st : D} {s w : Int} {ts : List Tb}
def prT (t : Tb) : Str × Int := (t.nm, t.pl)
theorem pr_comp (a0 a1 a2 a3 a4 a5 a6 a7 a8 a9 a10 a11 v a13 : SV) (hl : ts.length ≤ 100000) : compGo [12] (putSlot 12) (mPure true) (mTup (mCons (mIx (mVar 12) (mC (.int 0))) (mCons (mIx (mVar 12) (mC (.int 1))) (mNil)))) ((ts.map dT).map .val) [] [a0, a1, a2, a3, a4, a5, a6, a7, a8, a9, a10, a11, v, a13] = .ok (.fresh (.lst ((ts.map prT).map prD))) [a0, a1, a2, a3, a4, a5, a6, a7, a8, a9, a10, a11, .no, a13] := by
  have h := comp_map (vs := [12]) (g := putSlot 12) (mt := mPure true) (me := mTup (mCons (mIx (mVar 12) (mC (.int 0))) (mCons (mIx (mVar 12) (mC (.int 1))) (mNil)))) (B := [a0, a1, a2, a3, a4, a5, a6, a7, a8, a9, a10, a11, .no, a13])
    (fun r => match r with | .val (.tup (d :: e :: _)) => .tup [d, e] | _ => .non) ((ts.map dT).map .val) [] [a0, a1, a2, a3, a4, a5, a6, a7, a8, a9, a10, a11, v, a13] rfl (by rw [sizeN]; simp; omega) (fun r hr => by
      obtain ⟨d, hd, rfl⟩ := List.mem_map.mp hr
      obtain ⟨t, ht, rfl⟩ := List.mem_map.mp hd
      refine ⟨[a0, a1, a2, a3, a4, a5, a6, a7, a8, a9, a10, a11, .sh (dT t), a13], _, [a0, a1, a2, a3, a4, a5, a6, a7, a8, a9, a10, a11, .sh (dT t), a13], ?_, rfl, ?_, rfl⟩
      · simp
      · simp [dT, L2.atI, L2.ixN, sizeN])
  have e : ((ts.map dT).map RV.val).map (fun r => match r with | .val (.tup (d :: e :: _)) => D.tup [d, e] | _ => .non) = (ts.map prT).map prD := by
    rw [List.map_map, List.map_map, List.map_map]
    rfl
  rw [e] at h
  exact h
theorem three_comp (a0 a1 a2 a3 a4 a5 a6 a7 a8 a9 a10 a11 a12 v : SV) (ps : List (Str × Int)) (hl : ps.length ≤ 100000) : compGo [13] (putSlot 13) (mCmpT gEq (mIx (mVar 13) (mC (.int 1))) (mC (.int 3))) (mVar 13) ((ps.map prD).map .val) [] [a0, a1, a2, a3, a4, a5, a6, a7, a8, a9, a10, a11, a12, v] =
    .ok (.fresh (.lst ((ps.filter fun p => p.2 == 3).map prD))) [a0, a1, a2, a3, a4, a5, a6, a7, a8, a9, a10, a11, a12, .no] := by
  have h := comp_fil (vs := [13]) (g := putSlot 13) (mt := mCmpT gEq (mIx (mVar 13) (mC (.int 1))) (mC (.int 3))) (me := mVar 13) (B := [a0, a1, a2, a3, a4, a5, a6, a7, a8, a9, a10, a11, a12, .no])
    (fun r => match r with | .val (.tup (_ :: .int p :: _)) => p == 3 | _ => false) (fun r => match r with | .val d => d | _ => .non) ((ps.map prD).map .val) [] [a0, a1, a2, a3, a4, a5, a6, a7, a8, a9, a10, a11, a12, v] rfl (by rw [sizeN]; simp; omega) (fun r hr => by
      obtain ⟨d, hd, rfl⟩ := List.mem_map.mp hr
      obtain ⟨t, ht, rfl⟩ := List.mem_map.mp hd
      refine ⟨[a0, a1, a2, a3, a4, a5, a6, a7, a8, a9, a10, a11, a12, .sh (prD t)], [a0, a1, a2, a3, a4, a5, a6, a7, a8, a9, a10, a11, a12, .sh (prD t)], ?_, ?_, fun _ => rfl, fun _ => ⟨[a0, a1, a2, a3, a4, a5, a6, a7, a8, a9, a10, a11, a12, .sh (prD t)], ?_, rfl⟩⟩
      · simp [prD]
      · simp [prD, L2.atI, L2.ixN]
      · simp [prD])
  rw [h, List.nil_append]
  have e : ((ps.map prD).map RV.val).filter (fun r => match r with | .val (.tup (_ :: .int p :: _)) => p == 3 | _ => false) = ((ps.filter fun p => p.2 == 3).map prD).map RV.val := by
    rw [List.map_map, List.filter_map, List.map_map]
    rfl
  rw [e, List.map_map, List.map_map]
  rfl
theorem pr_ok (hs : s234 s) (hg : Good s ts) : PrOk s (ts.map prT) := ⟨by
    rw [List.map_map]; exact hg.nd, fun p hp => by
    obtain ⟨t, ht, rfl⟩ := List.mem_map.mp hp
    exact nmOk_iff.mp (hg.ok t ht).nm, fun p hp => by
    obtain ⟨t, ht, rfl⟩ := List.mem_map.mp hp
    obtain ⟨h1, h2, h3, _⟩ := tab_facts (hg.ok t ht)
    refine ⟨h1, fun z => ?_⟩
    have z : t.pl = 3 := z
    rw [z] at h2
    rcases hs with rfl | rfl | rfl
    · rfl
    · have : ((3 : Int) ^ (3 : Int).toNat).toNat = 27 := rfl
      omega
    · have : ((4 : Int) ^ (3 : Int).toNat).toNat = 64 := rfl
      omega, by rw [List.length_map]; exact hg.n⟩
theorem made_loop (hw : s234 w) (a1 a2 a3 a4 a7 a12 a13 : SV) (ps : List (Str × Int)) (hp : ∀ p ∈ ps, Lt 2 8 p.1 ∧ p03 p.2 ∧ (p.2 = 3 → w = 2)) (hs : Str3 st) (us : List Tb) (hu : us.length + ps.length ≤ 50) (v6 v9 v10 v11 : SV) (h6 : canPut (some v6) = true) (h9 : canPut (some v9) = true) (h10 : canPut (some v10) = true) (h11 : canPut (some v11) = true) :
    ∃ (st' : D) (vs : List Tb) (w6 w9 w10 w11 : SV), Str3 st' ∧ vs.map prT = ps ∧ (∀ t ∈ vs, TbOk w t) ∧
      forGo (gTupT 2 (gsCons (putSlot 9) (gsCons (putSlot 10) (gsNil)))) b__law_other_3 ((ps.map prD).map .val) [.io st, a1, a2, a3, a4, .sh (.int w), v6, a7, .own (.lst (us.map dT)), v9, v10, v11, a12, a13] =
      .nx [.io st', a1, a2, a3, a4, .sh (.int w), w6, a7, .own (.lst ((us ++ vs).map dT)), w9, w10, w11, a12, a13] := by
  induction ps generalizing st us v6 v9 v10 v11 with
  | nil => exact ⟨st, [], v6, v9, v10, v11, hs, rfl, (fun t h => nomatch h), by rw [List.append_nil]; rfl⟩
  | cons p ps ih =>
    rw [List.length_cons] at hu
    obtain ⟨q1, q2, q3⟩ := hp p List.mem_cons_self
    obtain ⟨st1, es, w6, w11, s1, c6, c11, ok, e1⟩ := other_turn hs hw q1 q2 q3 a1 a2 a3 a4 v6 a7 v11 a12 a13 us (by omega) h6 h11
    obtain ⟨st', vs, x6, x9, x10, x11, s2, r1, r2, e2⟩ := ih (fun p h => hp p (List.mem_cons_of_mem _ h)) s1 (us ++ [⟨p.1, p.2, es⟩]) (by simp; omega) w6 (.sh (.str p.1)) (.sh (.int p.2)) w11 c6 rfl rfl c11
    refine ⟨st', ⟨p.1, p.2, es⟩ :: vs, x6, x9, x10, x11, s2, by rw [List.map_cons, r1]; rfl, fun t h => ?_, ?_⟩
    · rcases List.mem_cons.mp h with rfl | h
      · exact ok
      · exact r2 t h
    · have eg : gTupT 2 (gsCons (putSlot 9) (gsCons (putSlot 10) (gsNil))) (.val (prD p)) [.io st, a1, a2, a3, a4, .sh (.int w), v6, a7, .own (.lst (us.map dT)), v9, v10, v11, a12, a13] = some [.io st, a1, a2, a3, a4, .sh (.int w), v6, a7, .own (.lst (us.map dT)), .sh (.str p.1), .sh (.int p.2), v11, a12, a13] := by
        simp [prD, h9, h10]
      rw [List.map_cons, List.map_cons, forGo_cons, eg, putB_some, e1, loopR_nx, e2, List.append_assoc]
      rfl
end
end G

namespace G
open PySem Av
def tail2 : MS := mSeq (mAsg (putSlot 7) (mCall [0] m__law_next (mCons (mVar 0) (mCons (mOp gAdd (mCallB gLen (mCons (mVar 4) (mNil))) (mC (.int 1))) (mNil))))) (mSeq (mAsg (putSlot 4) (mOp gAdd (mSl (mVar 4) (mPart (mVar 7)) (mNoPart)) (mSl (mVar 4) (mNoPart) (mPart (mVar 7))))) (mSeq (mAsg (putSlot 8) (mLst (mNil))) (mSeq (mFor (mSeqIt (mVar 4)) (gTupT 2 (gsCons (putSlot 9) (gsCons (putSlot 10) (gsNil)))) (b__law_other_3)) (mRet (mTup (mCons (mVar 5) (mCons (mVar 8) (mNil))))))))
def tail1 : MS := mSeq (mIfS (mCmpT gEq (mVar 3) (mC (.int 7))) (mFor (mRange gRange1 (mCons (mC (.int 2)) (mNil))) (putSlot 6) (b__law_other_1)) (mSkip)) tail2
theorem other_split : b__law_other = mSeq (mAsg (putSlot 4) (mComp [12] (mSeqIt (mVar 2)) (putSlot 12) (mPure true) (mTup (mCons (mIx (mVar 12) (mC (.int 0))) (mCons (mIx (mVar 12) (mC (.int 1))) (mNil)))))) (mSeq (mAsg (putSlot 5) (mVar 1)) (mSeq (mIfS (mAndT (mCmpT gEq (mVar 3) (mC (.int 0))) (mCmpT gEq (mCallB gLen (mCons (mComp [13] (mSeqIt (mVar 4)) (putSlot 13) (mCmpT gEq (mIx (mVar 13) (mC (.int 1))) (mC (.int 3))) (mVar 13)) (mNil))) (mC (.int 0)))) (mAsg (putSlot 5) (mOp gAdd (mC (.int 2)) (mCall [0] m__law_next (mCons (mVar 0) (mCons (mC (.int 3)) (mNil)))))) (mSkip)) (mSeq (mAsg (putSlot 4) (mCall [0] m__law_changed (mCons (mVar 0) (mCons (mVar 5) (mCons (mFrz (mVar 4)) (mCons (mVar 3) (mNil))))))) (tail1)))) := rfl
section
variable {st : D} {s w : Int} {ts : List Tb}
theorem tail2_eq (hs : Str3 st) (hw : s234 w) {ps : List (Str × Int)} (h : PrOk w ps) (a1 a2 a3 v4 v6 : SV) (h4 : kindL v4 (.lst (ps.map prD))) (h6 : canPut (some v6) = true) :
    ∃ (st' : D) (us : List Tb) (sd : List SV), Str3 st' ∧ Good w us ∧ tail2 [.io st, a1, a2, a3, v4, .sh (.int w), v6, .no, .no, .no, .no, .no, .no, .no] = .ret (.val (.tup [.int w, .lst (us.map dT)])) (.io st' :: sd) := by
  have hn := h.n
  obtain ⟨k, st1, s1, k0, k1, e1⟩ := next_eq hs ((ps.length : Int) + 1) (by omega) (by omega)
  obtain ⟨k, rfl⟩ := Int.eq_ofNat_of_zero_le k0
  have ea := gAdd_P (xs := ps.drop k) (ys := ps.take k) (by rw [List.length_take, List.length_drop]; omega)
  have c1 := cut_to (xs := ps) k
  have c2 := cut_from (xs := ps) k
  have perm : (ps.drop k ++ ps.take k).Perm ps := by
    conv => rhs; rw [← List.take_append_drop k ps]
    exact List.perm_append_comm
  have h' := h.perm perm
  obtain ⟨st2, vs, w6, w9, w10, w11, s2, r1, r2, e2⟩ := made_loop hw a1 a2 a3 (.sh (.lst ((ps.drop k ++ ps.take k).map prD))) (.sh (.int k)) .no .no (ps.drop k ++ ps.take k) (fun p hp => ⟨h'.nm p hp, h'.pl p hp⟩) s1 [] (by rw [perm.length_eq, List.length_nil]; omega) v6 .no .no .no h6 rfl rfl rfl
  have hg : Good w vs := ⟨by
    have := h'.nd
    rw [← r1, List.map_map] at this
    exact this, r2, by
    have := congrArg List.length r1
    rw [List.length_map, perm.length_eq] at this
    omega⟩
  rw [List.nil_append] at e2
  rw [List.map_nil] at e2
  have iT : D.imms (vs.map dT) = true := imms_dT
  refine ⟨st2, vs, [a1, a2, a3, .sh (.lst ((ps.drop k ++ ps.take k).map prD)), .sh (.int w), w6, .sh (.int k), .sh (.lst (vs.map dT)), w9, w10, w11, .no, .no], s2, hg, ?_⟩
  unfold tail2
  rcases h4 with rfl | rfl
  · simp -implicitDefEqProofs [-List.map_map, -List.map_append, -List.map_take, -List.map_drop, -gAdd_lst, -gSl_lst, e1, gSl_P, c1, c2, ea, e2, iT, sizeN]
  · simp -implicitDefEqProofs [-List.map_map, -List.map_append, -List.map_take, -List.map_drop, -gAdd_lst, -gSl_lst, e1, gSl_P, c1, c2, ea, e2, iT, sizeN]
theorem tail1_eq (hs : Str3 st) (hw : s234 w) {ps : List (Str × Int)} (h : PrOk w ps) (a1 a2 v4 : SV) (way : Int) (h4 : kindL v4 (.lst (ps.map prD))) :
    ∃ (st' : D) (us : List Tb) (sd : List SV), Str3 st' ∧ Good w us ∧ tail1 [.io st, a1, a2, .sh (.int way), v4, .sh (.int w), .no, .no, .no, .no, .no, .no, .no, .no] = .ret (.val (.tup [.int w, .lst (us.map dT)])) (.io st' :: sd) := by
  by_cases h7 : way = 7
  · have hl := for_range (g := putSlot 6) (b := b__law_other_1) (lo := 0) (n := 2)
      (fun i sd => ∃ (st : D) (ps : List (Str × Int)) (v4 v6 : SV), Str3 st ∧ PrOk w ps ∧ kindL v4 (.lst (ps.map prD)) ∧ canPut (some v6) = true ∧ sd = [.io st, a1, a2, .sh (.int way), v4, .sh (.int w), v6, .no, .no, .no, .no, .no, .no, .no])
      [.io st, a1, a2, .sh (.int way), v4, .sh (.int w), .no, .no, .no, .no, .no, .no, .no, .no] ⟨st, ps, v4, .no, hs, h, h4, rfl, rfl⟩
      (fun i sd hi ⟨st, ps, v4, v6, q1, q2, q3, q4, q5⟩ => by
        subst q5
        obtain ⟨d, st1, s1, d0, d1, e1⟩ := next_eq q1 5 (by omega) (by omega)
        obtain ⟨qs, st2, r, s2, q2', hr, e2⟩ := changed_eq s1 q2 (1 + d)
        have iP : D.imms (ps.map prD) = true := imms_prD
        rcases hr with rfl | rfl
        · refine ⟨[.io st2, a1, a2, .sh (.int way), .sh (.lst (qs.map prD)), .sh (.int w), .sh (.int i), .no, .no, .no, .no, .no, .no, .no], ?_, st2, qs, .sh (.lst (qs.map prD)), .sh (.int i), s2, q2', .inl rfl, rfl, rfl⟩
          unfold b__law_other_1
          rcases q3 with rfl | rfl <;> simp -implicitDefEqProofs [-List.map_map, mFrz, q4, e1, e2, iP]
        · refine ⟨[.io st2, a1, a2, .sh (.int way), .own (.lst (qs.map prD)), .sh (.int w), .sh (.int i), .no, .no, .no, .no, .no, .no, .no], ?_, st2, qs, .own (.lst (qs.map prD)), .sh (.int i), s2, q2', .inr rfl, rfl, rfl⟩
          unfold b__law_other_1
          rcases q3 with rfl | rfl <;> simp -implicitDefEqProofs [-List.map_map, mFrz, q4, e1, e2, iP])
    obtain ⟨sd', e, st1, ps1, w4, w6, q1, q2, q3, q4, rfl⟩ := hl
    obtain ⟨st2, us, sd, s2, hg, e2⟩ := tail2_eq q1 hw q2 a1 a2 (.sh (.int way)) w4 w6 q3 q4
    have hr : rangeOk 2 = true := by decide
    refine ⟨st2, us, sd, s2, hg, ?_⟩
    unfold tail1
    subst h7
    simp -implicitDefEqProofs [-List.map_map, hr, e, e2]
  · obtain ⟨st2, us, sd, s2, hg, e2⟩ := tail2_eq hs hw h a1 a2 (.sh (.int way)) v4 .no h4 rfl
    refine ⟨st2, us, sd, s2, hg, ?_⟩
    unfold tail1
    simp -implicitDefEqProofs [-List.map_map, h7, e2]
end
end G

namespace G
open PySem Av
section
variable {st : D} {s w : Int} {ts : List Tb}
/-- the fourth statement and what follows -/
theorem head_eq (hs : Str3 st) (hw : s234 w) {ps : List (Str × Int)} (h : PrOk w ps) (a1 a2 v4 : SV) (way : Int) (h4 : kindL v4 (.lst (ps.map prD))) :
    ∃ (st' : D) (us : List Tb) (sd : List SV), Str3 st' ∧ Good w us ∧ (mSeq (mAsg (putSlot 4) (mCall [0] m__law_changed (mCons (mVar 0) (mCons (mVar 5) (mCons (mFrz (mVar 4)) (mCons (mVar 3) (mNil))))))) tail1) [.io st, a1, a2, .sh (.int way), v4, .sh (.int w), .no, .no, .no, .no, .no, .no, .no, .no] = .ret (.val (.tup [.int w, .lst (us.map dT)])) (.io st' :: sd) := by
  obtain ⟨qs, st1, r, s1, q1, hr, e1⟩ := changed_eq hs h way
  have iP : D.imms (ps.map prD) = true := imms_prD
  rcases hr with rfl | rfl
  · obtain ⟨st2, us, sd, s2, hg, e2⟩ := tail1_eq s1 hw q1 a1 a2 (.sh (.lst (qs.map prD))) way (.inl rfl)
    refine ⟨st2, us, sd, s2, hg, ?_⟩
    rcases h4 with rfl | rfl <;> simp -implicitDefEqProofs [-List.map_map, mFrz, e1, e2, iP]
  · obtain ⟨st2, us, sd, s2, hg, e2⟩ := tail1_eq s1 hw q1 a1 a2 (.own (.lst (qs.map prD))) way (.inr rfl)
    refine ⟨st2, us, sd, s2, hg, ?_⟩
    rcases h4 with rfl | rfl <;> simp -implicitDefEqProofs [-List.map_map, mFrz, e1, e2, iP]
theorem other_eq {q : D → SV} (hq : lent q) (hs : Str3 st) (h234 : s234 s) (hg : Good s ts) (way : Int) :
    ∃ (st' : D) (w : Int) (us : List Tb), Str3 st' ∧ s234 w ∧ Good w us ∧ m__law_other [.io st, .sh (.int s), q (.lst (ts.map dT)), .sh (.int way)] = .ok (.val (.tup [.int w, .lst (us.map dT)])) [st'] := by
  have hn := hg.n
  have hp := pr_ok h234 hg
  have bt := bor_map (xs := ts.map dT) imms_dT
  have c1 := pr_comp (ts := ts) (.io st) (.sh (.int s)) (q (.lst (ts.map dT))) (.sh (.int way)) .no .no .no .no .no .no .no .no .no .no (by omega)
  have iP : D.imms ((ts.map prT).map prD) = true := imms_prD
  unfold m__law_other
  rw [other_split]
  by_cases h0 : way = 0
  · have c2 := three_comp (.io st) (.sh (.int s)) (q (.lst (ts.map dT))) (.sh (.int way)) (.sh (.lst ((ts.map prT).map prD))) (.sh (.int s)) .no .no .no .no .no .no .no .no (ts.map prT) (by rw [List.length_map]; omega)
    generalize hF : (ts.map prT).filter (fun p => p.2 == 3) = F at c2
    by_cases hz : F = []
    · obtain ⟨d, st1, s1, d0, d1, e1⟩ := next_eq hs 3 (by omega) (by omega)
      have hw : s234 (2 + d) := by unfold s234; omega
      have hp' : PrOk (2 + d) (ts.map prT) := ⟨hp.nd, hp.nm, fun p hm => ⟨(hp.pl p hm).1, fun z => by
        have : p ∈ F := by rw [← hF, List.mem_filter]; exact ⟨hm, by simp [z]⟩
        rw [hz] at this
        cases this⟩, hp.n⟩
      obtain ⟨st2, us, sd, s2, hg2, e2⟩ := head_eq s1 hw hp' (.sh (.int s)) (q (.lst (ts.map dT))) (.sh (.lst ((ts.map prT).map prD))) way (.inl rfl)
      refine ⟨st2, 2 + d, us, s2, hw, hg2, ?_⟩
      subst hz h0
      rcases hq with rfl | rfl
      · simp -implicitDefEqProofs [-List.map_map, -mSeq_eq, mSeq_eq, bt, c1, c2, e1, iP, sizeN] at e2 ⊢
        rw [e2]
        simp
      · simp -implicitDefEqProofs [-List.map_map, bt, c1, c2, e1, iP, sizeN] at e2 ⊢
        rw [e2]
        simp
    · obtain ⟨st2, us, sd, s2, hg2, e2⟩ := head_eq hs h234 hp (.sh (.int s)) (q (.lst (ts.map dT))) (.sh (.lst ((ts.map prT).map prD))) way (.inl rfl)
      refine ⟨st2, s, us, s2, h234, hg2, ?_⟩
      have hz2 : ¬ F.length = 0 := fun z => hz (List.eq_nil_of_length_eq_zero z)
      subst h0
      rcases hq with rfl | rfl
      · simp -implicitDefEqProofs [-List.map_map, bt, c1, c2, hz, hz2, iP, sizeN] at e2 ⊢
        rw [e2]
        simp
      · simp -implicitDefEqProofs [-List.map_map, bt, c1, c2, hz, hz2, iP, sizeN] at e2 ⊢
        rw [e2]
        simp
  · obtain ⟨st2, us, sd, s2, hg2, e2⟩ := head_eq hs h234 hp (.sh (.int s)) (q (.lst (ts.map dT))) (.own (.lst ((ts.map prT).map prD))) way (.inr rfl)
    refine ⟨st2, s, us, s2, h234, hg2, ?_⟩
    rcases hq with rfl | rfl
    · simp -implicitDefEqProofs [-List.map_map, bt, c1, h0, iP, sizeN] at e2 ⊢
      rw [e2]
      simp
    · simp -implicitDefEqProofs [-List.map_map, bt, c1, h0, iP, sizeN] at e2 ⊢
      rw [e2]
      simp
end
end G

namespace G
open PySem Av
/-! asked names; letters -/
theorem strOk_iff {x : Str} : PyData.strOk x = true ↔ ∀ c ∈ x.cps.toList, c < 0x110000 := by
  show (x.cps.all (· < 0x110000)) = true ↔ _
  rw [Array.all_eq_true']
  simp
structure PS (n : Nat) (x : Str) : Prop where
  l : x.length ≤ n
  o : PyData.strOk x = true
theorem PS.app {m n : Nat} {x y : Str} (h1 : PS m x) (h2 : PS n y) : PS (m + n) (x ++ y) := ⟨by rw [len_append]; have := h1.l; have := h2.l; omega, strOk_iff.mpr fun c hc => by
  rw [toL_append] at hc
  rcases List.mem_append.mp hc with hc | hc
  · exact strOk_iff.mp h1.o c hc
  · exact strOk_iff.mp h2.o c hc⟩
theorem PS.cut {n : Nat} {x : Str} (h : PS n x) (lo hi : Option Int) : PS n (L2.cutS x lo hi) := by
  refine ⟨?_, strOk_iff.mpr fun c hc => ?_⟩
  · rw [cut_str.2]
    have := cutD_len (xs := x.cps.toList) lo hi
    rw [len_toL] at this
    have := h.l
    omega
  · rw [cut_str.1] at hc
    exact strOk_iff.mp h.o c (cut_mem hc)
where
  cutD_len {α : Type} {xs : List α} (lo hi : Option Int) : (cutD xs lo hi).length ≤ xs.length := by
    unfold cutD
    rw [List.length_take, List.length_drop]
    omega
theorem PS.mono {m n : Nat} {x : Str} (h : PS m x) (hmn : m ≤ n) : PS n x := ⟨by have := h.l; omega, h.o⟩
theorem Lt.ps {a b : Nat} {x : Str} (h : Lt a b x) : PS b x := ⟨h.hi, h.str⟩
theorem gAdd_S {m n : Nat} {x y : Str} (hx : PS m x) (hy : PS n y) (h : m + n ≤ 16777216) : gAdd (.str x) (.str y) = some (.val (.str (x ++ y))) := by
  rw [gAdd_str, sizeN, if_pos (by have := hx.l; have := hy.l; omega)]
theorem gSl_S {m : Nat} {x : Str} (hx : PS m x) (h : m ≤ 16777216) {lo hi : Option Int} : gSl (.str x) lo hi = some (.val (.str (L2.cutS x lo hi))) := by
  rw [gSl_str, sizeN, if_pos (by have := hx.l; omega)]
theorem upper_ps {a b : Nat} {x : Str} (h : Lt a b x) : PS b (Txt.upper x) := by
  have hA : ∀ c ∈ x.cps.toList, c < 128 := fun c hc => by
    have := List.all_eq_true.mp h.al c hc
    unfold letter at this
    simp at this
    omega
  rw [PyProof.Rows.upper_ascii hA]
  refine ⟨?_, strOk_iff.mpr fun c hc => ?_⟩
  · show (x.cps.map PyProof.Rows.up1).size ≤ b
    rw [Array.size_map]
    exact h.hi
  · have hc : c ∈ (x.cps.map PyProof.Rows.up1).toList := hc
    rw [Array.toList_map, List.mem_map] at hc
    obtain ⟨e, he, rfl⟩ := hc
    have := hA e he
    unfold PyProof.Rows.up1
    split <;> omega
def sevenL (x : Str) : List Str := [x, x ++ "a", L2.cutS x none (some (-1)), Txt.upper x, x ++ " ", L2.cutS x none (some 1), L2.cutS x (some 1) none]
theorem seven_ok {x : Str} (h : Lt 2 8 x) : ∀ y ∈ sevenL x, PS 16 y := fun y hy => by
  unfold sevenL at hy
  have ha : PS 1 ("a" : Str) := ⟨by decide +kernel, by decide +kernel⟩
  have hb : PS 1 (" " : Str) := ⟨by decide +kernel, by decide +kernel⟩
  simp only [List.mem_cons, List.not_mem_nil, or_false] at hy
  rcases hy with rfl | rfl | rfl | rfl | rfl | rfl | rfl
  · exact h.ps.mono (by omega)
  · exact (h.ps.app ha).mono (by omega)
  · exact (h.ps.cut _ _).mono (by omega)
  · exact (upper_ps h).mono (by omega)
  · exact (h.ps.app hb).mono (by omega)
  · exact (h.ps.cut _ _).mono (by omega)
  · exact (h.ps.cut _ _).mono (by omega)
def nineL : List Str := ["", "a", "z", "A", "1", "{", "`", " ", "ab"]
theorem nine_ok : ∀ y ∈ nineL, PS 16 y := fun y hy => by
  have : (nineL.all fun x => decide (x.length ≤ 16) && PyData.strOk x) = true := by decide +kernel
  have := List.all_eq_true.mp this y hy
  rw [Bool.and_eq_true, decide_eq_true_eq] at this
  exact ⟨this.1, this.2⟩
theorem near_loop (a0 v2 : SV) (h2 : canPut (some v2) = true) (ks : List Str) (hk : ∀ k ∈ ks, Lt 2 8 k) (ys : List Str) (hl : ys.length + 7 * ks.length ≤ 1000) :
    ∃ v2', forGo (putSlot 2) b__law_near_names_1 ((ks.map D.str).map .val) [a0, .own (.lst (ys.map .str)), v2] = .nx [a0, .own (.lst ((ys ++ ks.flatMap sevenL).map .str)), v2'] := by
  induction ks generalizing v2 ys with
  | nil => exact ⟨v2, by rw [List.flatMap_nil, List.append_nil]; rfl⟩
  | cons k ks ih =>
    rw [List.length_cons] at hl
    have hx := hk k List.mem_cons_self
    have h7 : (sevenL k).length = 7 := rfl
    obtain ⟨v2', e⟩ := ih (.sh (.str k)) rfl (fun y hy => hk y (List.mem_cons_of_mem _ hy)) (ys ++ sevenL k) (by rw [List.length_append, h7]; omega)
    refine ⟨v2', ?_⟩
    have ha : PS 1 ("a" : Str) := ⟨by decide +kernel, by decide +kernel⟩
    have hb : PS 1 (" " : Str) := ⟨by decide +kernel, by decide +kernel⟩
    have e1 := gAdd_S hx.ps ha (by omega)
    have e2 := gAdd_S hx.ps hb (by omega)
    have e3 : ∀ lo hi, gSl (.str k) lo hi = some (.val (.str (L2.cutS k lo hi))) := fun lo hi => gSl_S hx.ps (by omega)
    have e4 : gUpper k = some (.val (.str (Txt.upper k))) := by rw [gUpper_eq, if_pos (by have := hx.hi; omega)]
    have ez : (.lst [.str k, .str (k ++ "a"), .str (L2.cutS k none (some (-1))), .str (Txt.upper k), .str (k ++ " "), .str (L2.cutS k none (some 1)), .str (L2.cutS k (some 1) none)] : D) = .lst ((sevenL k).map .str) := rfl
    have e5 : gAdd (.lst (ys.map .str)) (.lst ((sevenL k).map .str)) = some (.fresh (.lst ((ys ++ sevenL k).map .str))) := by
      have : gAdd (.lst (ys.map D.str)) (.lst ((sevenL k).map D.str)) = some (.fresh (.lst (ys.map D.str ++ (sevenL k).map D.str))) := by
        have iY : D.imms (ys.map D.str) = true := imm_strs
        have iS : D.imms ((sevenL k).map D.str) = true := imm_strs
        rw [gAdd_lst, iY, iS, List.length_map, List.length_map, h7, sizeN, decide_eq_true (show ys.length + 7 ≤ 16777216 by omega)]
        rfl
      rw [this, ← List.map_append]
    rw [List.map_cons, List.map_cons, forGo_cons, List.flatMap_cons, ← List.append_assoc, ← e]
    conv => lhs; unfold b__law_near_names_1
    simp -implicitDefEqProofs [-List.map_map, -List.map_append, -gAdd_lst, -gAdd_str, -gSl_str, -gUpper_eq, h2, e1, e2, e3, e4, ez, e5, sizeN]
    rfl
theorem near_names_eq (ks : List Str) (hk : ∀ k ∈ ks, Lt 2 8 k) (hl : ks.length ≤ 100) : m__law_near_names [.sh (.lst (ks.map .str))] = .ok (.fresh (.lst ((nineL ++ ks.flatMap sevenL).map .str))) [] := by
  obtain ⟨v', e⟩ := near_loop (.sh (.lst (ks.map .str))) .no rfl ks hk nineL (by show 9 + _ ≤ _; omega)
  have ez : (.lst [.str "", .str "a", .str "z", .str "A", .str "1", .str "{", .str "`", .str " ", .str "ab"] : D) = .lst (nineL.map .str) := rfl
  unfold m__law_near_names b__law_near_names
  simp -implicitDefEqProofs [-List.map_map, -List.map_append, ez, e, sizeN]
theorem near_all {ks : List Str} (hk : ∀ k ∈ ks, Lt 2 8 k) : ∀ y ∈ nineL ++ ks.flatMap sevenL, PS 16 y := fun y hy => by
  rcases List.mem_append.mp hy with hy | hy
  · exact nine_ok y hy
  · obtain ⟨k, h1, h2⟩ := List.mem_flatMap.mp hy
    exact seven_ok (hk k h1) y h2
end G

namespace G
open PySem Av
theorem in_abcF (c : Nat) : gInSg false (.str ⟨#[c]⟩) (.str "abcdefghijklmnopqrstuvwxyz") = some (.val (.bl (letter c))) := by
  have h := in_abc c
  unfold gInSg at h ⊢
  simp at h ⊢
  rw [h]
def isLt (x : Str) : Bool := match x.cps.toList with
  | [c] => letter c
  | _ => false
theorem one_cases (x : Str) : (∃ c, x = ⟨#[c]⟩) ∨ (¬ (x.length : Int) = 1 ∧ isLt x = false) := by
  cases h : x.cps.toList with
  | nil =>
    right
    have := len_toL x
    rw [h] at this
    exact ⟨by simp at this; omega, by unfold isLt; rw [h]⟩
  | cons c r =>
    cases r with
    | nil => exact .inl ⟨c, one_sign h⟩
    | cons d r =>
      right
      have := len_toL x
      rw [h] at this
      exact ⟨by simp at this; omega, by unfold isLt; rw [h]⟩
theorem is_letter_eq {x : Str} (hx : PS 16 x) : m_is_letter [.sh (.str x)] = .ok (.val (.bl (isLt x))) [] := by
  have hl : x.length ≤ 16777216 := by have := hx.l; omega
  unfold m_is_letter b_is_letter
  rcases one_cases x with ⟨c, rfl⟩ | ⟨h1, h2⟩
  · have l1 : (⟨#[c]⟩ : Str).length = 1 := rfl
    have e : isLt ⟨#[c]⟩ = letter c := rfl
    have g1 : gEq (.int 1) (.int 1) = some (.val (.bl true)) := by kernel_rfl
    rw [e]
    unfold letter
    by_cases h1 : 97 ≤ c
    · simp -implicitDefEqProofs [l1, g1, le_a, le_z, h1, sizeN]
    · simp -implicitDefEqProofs [l1, g1, le_a, le_z, h1, sizeN]
  · rw [h2]
    simp -implicitDefEqProofs [hl, h1, sizeN]
theorem letter_val {x : Str} (hx : PS 16 x) (a0 a1 a2 a3 a4 a5 a6 a7 a8 a9 a10 v12 a13 : SV) (h12 : canPut (some v12) = true) : b_law_2 [a0, a1, a2, a3, a4, a5, a6, a7, a8, a9, a10, .sh (.str x), v12, a13] = .nx [a0, a1, a2, a3, a4, a5, a6, a7, a8, a9, a10, .sh (.str x), .sh (.bl (isLt x)), a13] := by
  have hl : x.length ≤ 16777216 := by have := hx.l; omega
  have e1 := is_letter_eq hx
  have e2 : m__law_exact [.sh (.bl (isLt x)), .sh (.bl (isLt x))] = .ok (.val (.bl true)) [] := exact_refl 8 _ rfl
  unfold b_law_2
  rcases one_cases x with ⟨c, rfl⟩ | ⟨h1, h2⟩
  · have l1 : (⟨#[c]⟩ : Str).length = 1 := rfl
    have e : isLt ⟨#[c]⟩ = letter c := rfl
    have g1 : gEq (.int 1) (.int 1) = some (.val (.bl true)) := by kernel_rfl
    rw [e] at e1 e2 ⊢
    simp -implicitDefEqProofs [l1, g1, in_abcF, h12, e1, e2, sizeN]
  · rw [h2] at e1 e2 ⊢
    simp -implicitDefEqProofs [hl, h1, h12, e1, e2, sizeN]
theorem letters_loop (a0 a1 a2 a3 a4 a5 a6 a7 a8 a9 a10 v11 v12 a13 : SV) (h11 : canPut (some v11) = true) (h12 : canPut (some v12) = true) (ks : List Str) (hk : ∀ k ∈ ks, PS 16 k) :
    ∃ w11 w12, forGo (putSlot 11) b_law_2 ((ks.map D.str).map .val) [a0, a1, a2, a3, a4, a5, a6, a7, a8, a9, a10, v11, v12, a13] = .nx [a0, a1, a2, a3, a4, a5, a6, a7, a8, a9, a10, w11, w12, a13] := by
  induction ks generalizing v11 v12 with
  | nil => exact ⟨v11, v12, rfl⟩
  | cons k ks ih =>
    obtain ⟨w11, w12, e⟩ := ih (.sh (.str k)) (.sh (.bl (isLt k))) rfl rfl fun y hy => hk y (List.mem_cons_of_mem _ hy)
    refine ⟨w11, w12, ?_⟩
    have eg : putSlot 11 (.val (.str k)) [a0, a1, a2, a3, a4, a5, a6, a7, a8, a9, a10, v11, v12, a13] = some [a0, a1, a2, a3, a4, a5, a6, a7, a8, a9, a10, .sh (.str k), v12, a13] := by simp [h11]
    rw [List.map_cons, List.map_cons, forGo_cons, eg, putB_some, letter_val (hk k List.mem_cons_self) _ _ _ _ _ _ _ _ _ _ _ _ _ h12, loopR_nx, e]
/-! the designated sign; a matrix is made -/
theorem desig_eq {st : D} (hs : Str3 st) {s : Int} (h234 : s234 s) : ∃ (de : List Int) (st' : D), Str3 st' ∧ sgI s 0 de = true ∧ 0 < de.length ∧ (de.length : Int) < s ∧ m__law_designated [.io st, .sh (.int s)] = .ok (.val (dS de)) [st'] := by
  obtain ⟨n, rfl⟩ : ∃ n : Nat, s = n := ⟨s.toNat, by rcases h234 with rfl | rfl | rfl <;> rfl⟩
  have hn : 2 ≤ n ∧ n ≤ 4 := by rcases h234 with h | h | h <;> omega
  obtain ⟨sg, st1, s1, g1, g2, g3, e1⟩ := drawn_sign hs n (by omega)
  by_cases hl : sg.length = n
  · refine ⟨[(n : Int) - 1], st1, s1, by simp [sgI]; omega, by simp, by simp; omega, ?_⟩
    have ez : (.tup [.int ((n : Int) - 1)] : D) = dS [(n : Int) - 1] := rfl
    unfold m__law_designated b__law_designated
    simp -implicitDefEqProofs [e1, hl, ez, sizeN]
  · refine ⟨sg, st1, s1, g1, g2, ?_, ?_⟩
    · rcases sg_len g1 with h | h
      · omega
      · subst h; simp at g2
    · have hl2 : ¬ (sg.length : Int) = (n : Int) := by omega
      unfold m__law_designated b__law_designated
      simp -implicitDefEqProofs [e1, hl2, sizeN]
theorem made_eq {s : Int} (h234 : s234 s) {de : List Int} (h1 : sgI s 0 de = true) (h2 : 0 < de.length) (h3 : (de.length : Int) < s) {ts : List Tb} (hg : Good s ts) :
    m_Matrix___init__ [.io (.obj "Matrix" []), .sh (.int s), .sh (dS de), .sh (.tup (ts.map dT))] = .ok (.val .non) [matD s de ts] := by
  refine init_none (B := 16) (by omega) s de ts (hg.sh h234) (by have := hg.n; omega) ?_
  unfold faultD
  have : 2 ≤ s ∧ s ≤ 4 := by rcases h234 with h | h | h <;> omega
  rw [if_pos this, if_pos ⟨h1, h2, h3⟩]
  exact fault_mk hg.nd (fun t ht z => nomatch z) hg.ok (by have := hg.n; simp; omega)
theorem nms_ok {s : Int} (h234 : s234 s) {ts : List Tb} (hg : Good s ts) : (∀ k ∈ nms ts, Lt 2 8 k) ∧ (nms ts).length ≤ 6 := ⟨fun k hk => by
  obtain ⟨t, ht, rfl⟩ := List.mem_map.mp hk
  exact nmOk_iff.mp (hg.ok t ht).nm, by unfold nms; rw [List.length_map]; exact hg.n⟩
theorem nm13 (a0 a1 a2 a3 a4 a5 a6 a7 a8 a9 a10 a11 a12 v : SV) (ts : List Tb) (hl : ts.length ≤ 100000) : compGo [13] (putSlot 13) (mPure true) (mIx (mVar 13) (mC (.int 0))) ((ts.map dT).map .val) [] [a0, a1, a2, a3, a4, a5, a6, a7, a8, a9, a10, a11, a12, v] = .ok (.fresh (.lst ((nms ts).map .str))) [a0, a1, a2, a3, a4, a5, a6, a7, a8, a9, a10, a11, a12, .no] := by
  have h := comp_map (vs := [13]) (g := putSlot 13) (mt := mPure true) (me := mIx (mVar 13) (mC (.int 0))) (B := [a0, a1, a2, a3, a4, a5, a6, a7, a8, a9, a10, a11, a12, .no])
    (fun r => match r with | .val (.tup (d :: _)) => d | _ => .non) ((ts.map dT).map .val) [] [a0, a1, a2, a3, a4, a5, a6, a7, a8, a9, a10, a11, a12, v] rfl (by rw [sizeN]; simp; omega) (fun r hr => by
      obtain ⟨d, hd, rfl⟩ := List.mem_map.mp hr
      obtain ⟨t, ht, rfl⟩ := List.mem_map.mp hd
      refine ⟨[a0, a1, a2, a3, a4, a5, a6, a7, a8, a9, a10, a11, a12, .sh (dT t)], _, [a0, a1, a2, a3, a4, a5, a6, a7, a8, a9, a10, a11, a12, .sh (dT t)], ?_, rfl, ?_, rfl⟩
      · simp
      · simp [dT, L2.atI, L2.ixN])
  have e : ((ts.map dT).map RV.val).map (fun r => match r with | .val (.tup (d :: _)) => d | _ => .non) = (nms ts).map .str := by
    unfold nms
    rw [List.map_map, List.map_map, List.map_map]
    rfl
  rw [e] at h
  exact h
end G

namespace G
open PySem Av
theorem paS_sh {d : D} : paS (.sh d) = some (.sh d) := rfl
theorem law_turn {s : Int} (h234 : s234 s) {de : List Int} {ts : List Tb} (hg : Good s ts) {stp : D} (hs : Str3 stp) (i : Nat) (hi : i < 8) (a0 a1 v6 v7 v8 v9 v10 v11 v12 : SV) (h6 : canPut (some v6) = true) (h7 : canPut (some v7) = true) (h8 : canPut (some v8) = true) (h9 : canPut (some v9) = true) (h10 : canPut (some v10) = true) :
    ∃ (stp' : D) (w7 w8 w9 w10 : SV), Str3 stp' ∧ canPut (some w7) = true ∧ canPut (some w8) = true ∧ canPut (some w9) = true ∧ canPut (some w10) = true ∧
      putB (putSlot 6 (.val (.int (0 + (i : Int)))) [a0, a1, .sh (.int s), .sh (.lst (ts.map dT)), .own (matD s de ts), .own stp, v6, v7, v8, v9, v10, v11, v12, .no]) b_law_1 =
      .nx [a0, a1, .sh (.int s), .sh (.lst (ts.map dT)), .own (matD s de ts), .own stp', .sh (.int i), w7, w8, w9, w10, v11, v12, .no] := by
  obtain ⟨st1, w, us, s1, hw, hu, e1⟩ := other_eq (q := .sh) (.inl rfl) hs h234 hg (i : Int)
  obtain ⟨de', st2, s2, d1, d2, d3, e2⟩ := desig_eq s1 hw
  have e3 := made_eq hw d1 d2 d3 hu
  obtain ⟨n1, l1⟩ := nms_ok h234 hg
  obtain ⟨n2, l2⟩ := nms_ok hw hu
  have hk : ∀ k ∈ nms ts ++ nms us, PyData.strOk k = true := fun k hk => by
    rcases List.mem_append.mp hk with h | h
    · exact (n1 k h).str
    · exact (n2 k h).str
  have hk' : ∀ k ∈ nms us ++ nms ts, PyData.strOk k = true := fun k hk => by
    rcases List.mem_append.mp hk with h | h
    · exact (n2 k h).str
    · exact (n1 k h).str
  have t1 := hg.n
  have t2 := hu.n
  have e4 := asked5 (s := s) (s' := w) (de := de) (de' := de') hg.nd hu.nd hk (by rw [List.length_append]; omega) "" (.tup [])
  have e5 := asked5 (s := w) (s' := s) (de := de') (de' := de) hu.nd hg.nd hk' (by rw [List.length_append]; omega) "" (.tup [])
  have e6 := unlike_eq (q := .sh) (q' := .sh) (.inl rfl) (.inl rfl) hg.nd hu.nd hk (by omega) (by omega)
  have e7 := unlike_eq (q := .sh) (q' := .sh) (.inl rfl) (.inl rfl) hu.nd hg.nd hk' (by omega) (by omega)
  have hx : ∀ o : Option Str, (∀ x, o = some x → PyData.strOk x = true) → m__law_exact [.sh (unD o), .sh (unD o)] = .ok (.val (.bl true)) [] := fun o ho => by
    cases o with
    | none => exact ex_an rfl
    | some x => exact ex_un (ho x rfl)
  have x1 := hx (unl ts us) fun x h => hk x (usortS_mem.mp (List.mem_of_find?_eq_some h))
  have x2 := hx (unl us ts) fun x h => hk' x (usortS_mem.mp (List.mem_of_find?_eq_some h))
  have e8 := matrix_right (de := de') hw hu (q := .sh) (qa := .bor) (.inl rfl) (.inr rfl) (nms ts ++ nms us) hk
  have iU : D.imms (us.map dT) = true := imms_dT
  have iT : D.imms (ts.map dT) = true := imms_dT
  have im1 := @mat_imm s de ts
  have im2 := @mat_imm w de' us
  have ib : (D.lst ((nms ts ++ nms us).map .str)).imm = false := rfl
  have iun : ∀ o, (unD o).imm = true := fun o => by cases o <;> rfl
  have ea : gAdd (.lst ((nms ts).map .str)) (.lst ((nms us).map .str)) = some (.fresh (.lst ((nms ts ++ nms us).map .str))) := by
    have i1 : D.imms ((nms ts).map D.str) = true := imm_strs
    have i2 : D.imms ((nms us).map D.str) = true := imm_strs
    rw [gAdd_lst, i1, i2, List.length_map, List.length_map, sizeN, decide_eq_true (show (nms ts).length + (nms us).length ≤ 16777216 by omega), ← List.map_append]
    rfl
  refine ⟨st2, .sh (.int w), .sh (.lst (us.map dT)), .own (matD w de' us), .own (.lst ((nms ts ++ nms us).map .str)), s2, rfl, rfl, rfl, rfl, ?_⟩
  have c1 := nm13 a0 a1 (.sh (.int s)) (.sh (.lst (ts.map dT))) (.own (matD s de ts)) (.own st2) (.sh (.int i)) (.sh (.int w)) (.sh (.lst (us.map dT))) (.own (matD w de' us)) v10 v11 v12 .no ts (by omega)
  have c2 := nm13 a0 a1 (.sh (.int s)) (.sh (.lst (ts.map dT))) (.own (matD s de ts)) (.own st2) (.sh (.int i)) (.sh (.int w)) (.sh (.lst (us.map dT))) (.own (matD w de' us)) v10 v11 v12 .no us (by omega)
  unfold b_law_1
  simp -implicitDefEqProofs [-List.map_map, -List.map_append, -gAdd_lst, h6, h7, h8, h9, h10, e1, e2, e3, e4, e5, e6, e7, x1, x2, e8, c1, c2, ea, iU, iT, im1, im2, ib, iun, sizeN]
theorem law_holds (ns : List Int) (hn : ns.length ≤ 63) : m_law [.sh (.lst (ns.map .int))] = .ok (.val (.bl true)) [] := by
  obtain ⟨c0, e1⟩ : ∃ v, m__law_cell [.sh (.lst (ns.map .int)), .sh (.int 0)] = .ok (.val (.int v)) [] := cell_eq ns 0
  obtain ⟨c1, e1'⟩ : ∃ v, m__law_cell [.sh (.lst (ns.map .int)), .sh (.int 1)] = .ok (.val (.int v)) [] := cell_eq ns 1
  obtain ⟨st0, s0, e2⟩ := stream_eq c0
  obtain ⟨sp0, sp, e3⟩ := stream_eq c1
  obtain ⟨d, st1, s1, d0, d1, e4⟩ := next_eq s0 3 (by omega) (by omega)
  have hs : s234 (2 + d) := by unfold s234; omega
  obtain ⟨f, st2, s2, f0, f1, e5⟩ := next_eq s1 3 (by omega) (by omega)
  obtain ⟨st3, ts, s3, hb, htl, e6⟩ := tables_eq s2 hs (f == 0)
  obtain ⟨b1, b2, b3, b4⟩ := fault_inv hb.ok
  have hg : Good (2 + d) ts := ⟨b1, b3, htl⟩
  obtain ⟨de, st4, s4, g1, g2, g3, e7⟩ := desig_eq s3 hs
  have e8 := made_eq hs g1 g2 g3 hg
  obtain ⟨n1, l1⟩ := nms_ok hs hg
  generalize hS : 2 + d = s at *
  have hk : ∀ k ∈ nms ts, PyData.strOk k = true := fun k h => (n1 k h).str
  have r1 := matrix_right (de := de) hs hg (q := .sh) (qa := .sh) (.inl rfl) (.inl rfl) (nms ts) hk
  have hl := for_range (g := putSlot 6) (b := b_law_1) (lo := 0) (n := 8)
    (fun k sd => ∃ (stp : D) (v6 v7 v8 v9 v10 : SV), Str3 stp ∧ canPut (some v6) = true ∧ canPut (some v7) = true ∧ canPut (some v8) = true ∧ canPut (some v9) = true ∧ canPut (some v10) = true ∧ sd = [.sh (.lst (ns.map .int)), .own st4, .sh (.int s), .sh (.lst (ts.map dT)), .own (matD s de ts), .own stp, v6, v7, v8, v9, v10, .no, .no, .no])
    [.sh (.lst (ns.map .int)), .own st4, .sh (.int s), .sh (.lst (ts.map dT)), .own (matD s de ts), .own sp0, .no, .no, .no, .no, .no, .no, .no, .no] ⟨sp0, .no, .no, .no, .no, .no, sp, rfl, rfl, rfl, rfl, rfl, rfl⟩
    (fun k sd hk ⟨stp, v6, v7, v8, v9, v10, q1, q6, q7, q8, q9, q10, hsd⟩ => by
      subst hsd
      obtain ⟨stp', w7, w8, w9, w10, t1, t7, t8, t9, t10, e⟩ := law_turn (de := de) hs hg q1 k hk (.sh (.lst (ns.map .int))) (.own st4) v6 v7 v8 v9 v10 .no .no q6 q7 q8 q9 q10
      exact ⟨_, e, stp', _, w7, w8, w9, w10, t1, rfl, t7, t8, t9, t10, rfl⟩)
  obtain ⟨sd', e9, stp, v6, v7, v8, v9, v10, q1, q6, q7, q8, q9, q10, rfl⟩ := hl
  have e10 := near_names_eq (nms ts) n1 (by omega)
  have hall := near_all n1
  generalize nineL ++ (nms ts).flatMap sevenL = ks at e10 hall
  obtain ⟨w11, w12, e11⟩ := letters_loop (.sh (.lst (ns.map .int))) (.own st4) (.sh (.int s)) (.sh (.lst (ts.map dT))) (.own (matD s de ts)) (.own stp) v6 v7 v8 v9 (.sh (.lst (ks.map .str))) .no .no .no rfl rfl ks hall
  have r2 := matrix_right (de := de) hs hg (q := .sh) (qa := .sh) (.inl rfl) (.inl rfl) ks fun k h => (hall k h).o
  have hkk : ∀ k ∈ nms ts ++ nms ts, PyData.strOk k = true := fun k h => by
    rcases List.mem_append.mp h with h | h <;> exact hk k h
  have e12 := asked5 (s := s) (s' := s) (de := de) (de' := de) hg.nd hg.nd hkk (by rw [List.length_append]; omega) "" (.tup [])
  have hun : unl ts ts = none := by
    unfold unl
    rw [List.find?_eq_none]
    intro x hx z
    rw [dif_eq (usortS_mem.mp hx)] at z
    unfold dif' at z
    simp at z
  rw [hun] at e12
  have x1 := ex_an (d := .non) rfl
  unfold unD anT at e12
  dsimp only at e12
  unfold anT at x1
  have iT : D.imms (ts.map dT) = true := imms_dT
  have im := @mat_imm s de ts
  have hr : rangeOk 8 = true := by decide
  have c1 := nm13 (.sh (.lst (ns.map .int))) (.own st4) (.sh (.int s)) (.sh (.lst (ts.map dT))) (.own (matD s de ts)) .no .no .no .no .no .no .no .no .no ts (by omega)
  have c2 := nm13 (.sh (.lst (ns.map .int))) (.own st4) (.sh (.int s)) (.sh (.lst (ts.map dT))) (.own (matD s de ts)) (.own stp) v6 v7 v8 v9 v10 .no .no .no ts (by omega)
  unfold m_law b_law
  simp -implicitDefEqProofs [-List.map_map, e1, e1', e2, e3, e4, hS, e5, e6, e7, e8, r1, hr, e9, e10, q10, e11, r2, e12, x1, c1, c2, iT, im, paS_sh, sizeN]
end G

/-! walks: each def does what its mirror tells -/
namespace G
open PySem PySem.Spec PyProof.Rows L2 Av
def top (i : Nat) : Stmt := PySem.Challenge.pw_anytruths_k02_connectives_and_kinds.main.body.getD i (.Pass ⟨0, 0, 0, 0⟩)
structure Bi (P : Program) (K : PySem.W.Frag) (mg : Str → Option Value) : Prop where
  ex : ExTab K mg exTab exFl
  cl : ClsTab K mg clFl
  r_BadMatrix : Er P K mg "BadMatrix" "place" "wrong matrix"
  r_NoConnective : Er P K mg "NoConnective" "name" "no such connective"
  r_NotPlain : Er P K mg "NotPlain" "name" "an entry has several values"
  r_Unlike : Er P K mg "Unlike" "name" "the connectives differ"
  n_AnytruthsError : ∃ D : Addr, mg "AnytruthsError" = some (.ref D)
  g_GREATEST_SIZE : mgInt mg "GREATEST_SIZE" 4
  g_LEAST_SIZE : mgInt mg "LEAST_SIZE" 2
  g_PLACE_LIMIT : mgInt mg "PLACE_LIMIT" 3
  g_ROW_LIMIT : mgInt mg "ROW_LIMIT" 16
  g_TABLE_LIMIT : mgInt mg "TABLE_LIMIT" 6
  b_ValueError : mg "ValueError" = none
  b_abs : mg "abs" = none
  b_bool : mg "bool" = none
  b_int : mg "int" = none
  b_isinstance : mg "isinstance" = none
  b_iter : mg "iter" = none
  b_len : mg "len" = none
  b_list : mg "list" = none
  b_min : mg "min" = none
  b_range : mg "range" = none
  b_set : mg "set" = none
  b_sorted : mg "sorted" = none
  b_str : mg "str" = none
  b_super : mg "super" = none
  b_tuple : mg "tuple" = none
section
variable {P : Program} {w : World} {K : PySem.W.Frag} {mg : Str → Option Value} {base : Heap}
abbrev s__law_stream : Stmt := top 34
theorem sc__law_stream : FnScope ["cell", "rest"] ["cell"] (defScope s__law_stream) := ⟨rfl, rfl, rfl, by decide +kernel, rfl, by decide +kernel, by decide +kernel⟩
theorem ok__law_stream (B : Bi P K mg) (S : Src K mg "_law_stream" s__law_stream ["cell"])  : Can P w K mg base 1 "_law_stream" ["cell"] (spD ⟨K, mg⟩ [] m__law_stream) := Can.of (k := 0) S sc__law_stream fun f cdv A outer s H E fx hr =>
  sss_cons (ss_asg (se_callB cs_abs rfl B.b_abs rfl (sa_cons (se_callTy cs_int rfl B.b_int rfl (sa_cons (se_v 0) (sa_nil))) (sa_nil))) (sg_v 1 sc__law_stream.nd)) (sss_cons (ss_if (st_cmp os_lt (se_v 1) (se_op os_pow (se_int) (se_int)) (nomark _)) (sss_one (ss_asg (se_int) (sg_v 1 sc__law_stream.nd))) (sss_nil)) (sss_one (ss_ret (se_lst (sa_cons (se_v 1) (sa_cons (se_callTy cs_int rfl B.b_int rfl (sa_cons (se_v 0) (sa_nil))) (sa_cons (se_int) (sa_nil))))))))
abbrev s__law_signs : Stmt := top 39
theorem sc__law_signs : FnScope ["size", "signs", "value", "pair"] ["size"] (defScope s__law_signs) := ⟨rfl, rfl, rfl, by decide +kernel, rfl, by decide +kernel, by decide +kernel⟩
theorem ok__law_signs (B : Bi P K mg) (S : Src K mg "_law_signs" s__law_signs ["size"])  : Can P w K mg base 1 "_law_signs" ["size"] (spD ⟨K, mg⟩ [] m__law_signs) := Can.of (k := 0) S sc__law_signs fun f cdv A outer s H E fx hr =>
  sss_cons (ss_asg (se_lst (sa_cons (se_tup (sa_cons (se_str) (sa_cons (se_tup (sa_nil)) (sa_nil)))) (sa_nil))) (sg_v 1 sc__law_signs.nd)) (sss_cons (ss_for (passes_of rfl) rfl (si_range1 rfl B.b_range (sa_cons (se_v 0) (sa_nil))) (sg_v 2 sc__law_signs.nd) (sss_one (ss_asg (se_op os_add (se_v 1) (se_lc (own := [("pair", 3)]) rfl sc__law_signs.nd (si_seq (se_v 1)) (blkOk_by (N := ["size", "signs", "value", "pair"]) (sc := defScope s__law_signs) (by decide +kernel)) (SGb.of (fun fx s H C cl fp => sg_v 3 sc__law_signs.nd)) (STb.nil) (SEb.of (fun fx s H C cl fp => se_tup (sa_cons (se_op os_add (se_ix (se_v 3) (se_int)) (se_ix (se_str) (se_v 2))) (sa_cons (se_op os_add (se_ix (se_v 3) (se_int)) (se_tup (sa_cons (se_v 2) (sa_nil)))) (sa_nil))))) (by decide))) (sg_v 1 sc__law_signs.nd)))) (sss_one (ss_ret (se_slice (se_v 1) (so_some (se_int)) (so_none)))))
abbrev s__law_next : Stmt := top 35
theorem sc__law_next : FnScope ["stream", "limit", "digit", "one", "two"] ["stream", "limit"] (defScope s__law_next) := ⟨rfl, rfl, rfl, by decide +kernel, rfl, by decide +kernel, by decide +kernel⟩
theorem ok__law_next (B : Bi P K mg) (S : Src K mg "_law_next" s__law_next ["stream", "limit"])  : Can P w K mg base 1 "_law_next" ["stream", "limit"] (spD ⟨K, mg⟩ [0] m__law_next) := Can.of (k := 0) S sc__law_next fun f cdv A outer s H E fx hr =>
  sss_cons (ss_setIx (i := 0) st_setL rfl (by first | exact Or.inl rfl | exact Or.inr (Or.inl rfl) | exact Or.inr (Or.inr rfl)) (se_int) (se_op os_add (se_ix (se_v 0) (se_int)) (se_int))) (sss_cons (ss_if (st_cmp os_gt (se_ix (se_v 0) (se_int)) (se_int) (nomark _)) (sss_cons (ss_asg (se_op os_mod (se_callTy cs_int rfl B.b_int rfl (sa_cons (se_ix (se_v 0) (se_int)) (sa_nil))) (se_v 1)) (sg_v 2 sc__law_next.nd)) (sss_cons (ss_setIx (i := 0) st_setL rfl (by first | exact Or.inl rfl | exact Or.inr (Or.inl rfl) | exact Or.inr (Or.inr rfl)) (se_int) (se_op os_div (se_callTy cs_int rfl B.b_int rfl (sa_cons (se_ix (se_v 0) (se_int)) (sa_nil))) (se_v 1))) (sss_one (ss_ret (se_v 2))))) (sss_nil)) (sss_cons (ss_asg (se_op os_mod (se_callTy cs_int rfl B.b_int rfl (sa_cons (se_op os_mul (se_callTy cs_int rfl B.b_int rfl (sa_cons (se_op os_add (se_op os_mod (se_callTy cs_int rfl B.b_int rfl (sa_cons (se_ix (se_v 0) (se_int)) (sa_nil))) (se_int)) (se_op os_mul (se_int) (se_ix (se_v 0) (se_int)))) (sa_nil))) (se_int)) (sa_nil))) (se_int)) (sg_v 3 sc__law_next.nd)) (sss_cons (ss_asg (se_op os_mod (se_callTy cs_int rfl B.b_int rfl (sa_cons (se_op os_add (se_op os_mul (se_v 3) (se_v 3)) (se_op os_mul (se_int) (se_ix (se_v 0) (se_int)))) (sa_nil))) (se_int)) (sg_v 4 sc__law_next.nd)) (sss_one (ss_ret (se_op os_mod (se_callTy cs_int rfl B.b_int rfl (sa_cons (se_v 4) (sa_nil))) (se_v 1)))))))
abbrev s__law_name : Stmt := top 41
theorem sc__law_name : FnScope ["stream", "name", "k"] ["stream"] (defScope s__law_name) := ⟨rfl, rfl, rfl, by decide +kernel, rfl, by decide +kernel, by decide +kernel⟩
theorem ok__law_name (B : Bi P K mg) (S : Src K mg "_law_name" s__law_name ["stream"]) (C__law_next : Can P w K mg base 1 "_law_next" ["stream", "limit"] (spD ⟨K, mg⟩ [0] m__law_next)) : Can P w K mg base 2 "_law_name" ["stream"] (spD ⟨K, mg⟩ [0] m__law_name) := Can.of (k := 1) S sc__law_name fun f cdv A outer s H E fx hr =>
  sss_cons (ss_asg (se_str) (sg_v 1 sc__law_name.nd)) (sss_cons (ss_for (passes_of rfl) rfl (si_range1 rfl B.b_range (sa_cons (se_op os_add (se_int) (se_own C__law_next (L2N.takes_of rfl rfl rfl rfl) hr (sa_cons (se_v 0) (sa_cons (se_int) (sa_nil))))) (sa_nil))) (sg_v 2 sc__law_name.nd) (sss_one (ss_asg (se_op os_add (se_v 1) (se_ix (se_str) (se_own C__law_next (L2N.takes_of rfl rfl rfl rfl) hr (sa_cons (se_v 0) (sa_cons (se_int) (sa_nil)))))) (sg_v 1 sc__law_name.nd)))) (sss_one (ss_ret (se_v 1))))
abbrev s__law_count : Stmt := top 40
theorem sc__law_count : FnScope ["size", "places", "count", "k"] ["size", "places"] (defScope s__law_count) := ⟨rfl, rfl, rfl, by decide +kernel, rfl, by decide +kernel, by decide +kernel⟩
theorem ok__law_count (B : Bi P K mg) (S : Src K mg "_law_count" s__law_count ["size", "places"])  : Can P w K mg base 1 "_law_count" ["size", "places"] (spD ⟨K, mg⟩ [] m__law_count) := Can.of (k := 0) S sc__law_count fun f cdv A outer s H E fx hr =>
  sss_cons (ss_asg (se_int) (sg_v 2 sc__law_count.nd)) (sss_cons (ss_for (passes_of rfl) rfl (si_range1 rfl B.b_range (sa_cons (se_v 1) (sa_nil))) (sg_v 3 sc__law_count.nd) (sss_one (ss_asg (se_op os_mul (se_v 2) (se_v 0)) (sg_v 2 sc__law_count.nd)))) (sss_one (ss_ret (se_v 2))))
abbrev s__law_tables : Stmt := top 42
theorem sc__law_tables : FnScope ["stream", "size", "plain", "signs", "tables", "k", "name", "places", "entries", "j", "table"] ["stream", "size", "plain"] (defScope s__law_tables) := ⟨rfl, rfl, rfl, by decide +kernel, rfl, by decide +kernel, by decide +kernel⟩
theorem ok__law_tables (B : Bi P K mg) (S : Src K mg "_law_tables" s__law_tables ["stream", "size", "plain"]) (C__law_signs : Can P w K mg base 1 "_law_signs" ["size"] (spD ⟨K, mg⟩ [] m__law_signs)) (C__law_next : Can P w K mg base 1 "_law_next" ["stream", "limit"] (spD ⟨K, mg⟩ [0] m__law_next)) (C__law_name : Can P w K mg base 2 "_law_name" ["stream"] (spD ⟨K, mg⟩ [0] m__law_name)) (C__law_count : Can P w K mg base 1 "_law_count" ["size", "places"] (spD ⟨K, mg⟩ [] m__law_count)) : Can P w K mg base 3 "_law_tables" ["stream", "size", "plain"] (spD ⟨K, mg⟩ [0] m__law_tables) := Can.of (k := 2) S sc__law_tables fun f cdv A outer s H E fx hr =>
  sss_cons (ss_asg (se_own C__law_signs (L2N.takes_of rfl rfl rfl rfl) hr (sa_cons (se_v 1) (sa_nil))) (sg_v 3 sc__law_tables.nd)) (sss_cons (ss_asg (se_lst (sa_nil)) (sg_v 4 sc__law_tables.nd)) (sss_cons (ss_for (passes_of rfl) rfl (si_range1 rfl B.b_range (sa_cons (se_own C__law_next (L2N.takes_of rfl rfl rfl rfl) hr (sa_cons (se_v 0) (sa_cons (se_int) (sa_nil)))) (sa_nil))) (sg_v 5 sc__law_tables.nd) (sss_cons (ss_asg (se_own C__law_name (L2N.takes_of rfl rfl rfl rfl) hr (sa_cons (se_v 0) (sa_nil))) (sg_v 6 sc__law_tables.nd)) (sss_cons (ss_asg (se_ix (se_lst (sa_cons (se_int) (sa_cons (se_int) (sa_cons (se_int) (sa_cons (se_int) (sa_cons (se_int) (sa_cons (se_int) (sa_nil)))))))) (se_own C__law_next (L2N.takes_of rfl rfl rfl rfl) hr (sa_cons (se_v 0) (sa_cons (se_int) (sa_nil))))) (sg_v 7 sc__law_tables.nd)) (sss_cons (ss_if (st_cmp os_gt (se_v 1) (se_int) (nomark _)) (sss_one (ss_asg (se_callB (cs_min rfl) rfl B.b_min rfl (sa_cons (se_v 7) (sa_cons (se_int) (sa_nil)))) (sg_v 7 sc__law_tables.nd))) (sss_nil)) (sss_cons (ss_asg (se_lst (sa_nil)) (sg_v 8 sc__law_tables.nd)) (sss_cons (ss_for (passes_of rfl) rfl (si_range1 rfl B.b_range (sa_cons (se_own C__law_count (L2N.takes_of rfl rfl rfl rfl) hr (sa_cons (se_v 1) (sa_cons (se_v 7) (sa_nil)))) (sa_nil))) (sg_v 9 sc__law_tables.nd) (sss_one (ss_if (st_truth (se_v 2)) (sss_one (ss_expr (se_mut (i := 8) PySem.F.plainAttrs_list PySem.F.slot_list_append PySem.F.type_list_append ms_append rfl (by first | exact Or.inl rfl | exact Or.inr (Or.inl rfl) | exact Or.inr (Or.inr rfl)) (sa_cons (se_tup (sa_cons (se_own C__law_next (L2N.takes_of rfl rfl rfl rfl) hr (sa_cons (se_v 0) (sa_cons (se_v 1) (sa_nil)))) (sa_nil))) (sa_nil))))) (sss_one (ss_expr (se_mut (i := 8) PySem.F.plainAttrs_list PySem.F.slot_list_append PySem.F.type_list_append ms_append rfl (by first | exact Or.inl rfl | exact Or.inr (Or.inl rfl) | exact Or.inr (Or.inr rfl)) (sa_cons (se_ix (se_ix (se_v 3) (se_own C__law_next (L2N.takes_of rfl rfl rfl rfl) hr (sa_cons (se_v 0) (sa_cons (se_callB cs_len rfl B.b_len rfl (sa_cons (se_v 3) (sa_nil))) (sa_nil))))) (se_int)) (sa_nil)))))))) (sss_one (ss_if (st_cmp (os_notIn (u65 hr)) (se_v 6) (se_lcA 4 (own := [("table", 10)]) rfl sc__law_tables.nd rfl (by first | exact Or.inl rfl | exact Or.inr (Or.inl rfl) | exact Or.inr (Or.inr rfl)) (blkOk_by (N := ["stream", "size", "plain", "signs", "tables", "k", "name", "places", "entries", "j", "table"]) (sc := defScope s__law_tables) (by decide +kernel)) (SGb.of (fun fx s H C cl fp => sg_v 10 sc__law_tables.nd)) (STb.nil) (SEb.of (fun fx s H C cl fp => se_ix (se_v 10) (se_int))) (by decide)) (by with_unfolding_all rfl)) (sss_one (ss_expr (se_mut (i := 4) PySem.F.plainAttrs_list PySem.F.slot_list_append PySem.F.type_list_append ms_append rfl (by first | exact Or.inl rfl | exact Or.inr (Or.inl rfl) | exact Or.inr (Or.inr rfl)) (sa_cons (se_tup (sa_cons (se_v 6) (sa_cons (se_v 7) (sa_cons (se_callTy cs_tuple rfl B.b_tuple rfl (sa_cons (se_v 8) (sa_nil))) (sa_nil))))) (sa_nil))))) (sss_nil))))))))) (sss_one (ss_ret (se_v 4)))))
abbrev s_is_value : Stmt := top 13
theorem sc_is_value : FnScope ["size", "datum"] ["size", "datum"] (defScope s_is_value) := ⟨rfl, rfl, rfl, by decide +kernel, rfl, by decide +kernel, by decide +kernel⟩
theorem ok_is_value (B : Bi P K mg) (S : Src K mg "is_value" s_is_value ["size", "datum"])  : Can P w K mg base 1 "is_value" ["size", "datum"] (spD ⟨K, mg⟩ [] m_is_value) := Can.of (k := 0) S sc_is_value fun f cdv A outer s H E fx hr =>
  sss_one (ss_ret (se_and (se_isa rfl B.b_isinstance rfl rfl B.b_int rfl (se_v 1)) (se_and (se_not (se_isa rfl B.b_isinstance rfl rfl B.b_bool rfl (se_v 1))) (se_one (se_chain os_le os_lt (se_int) (se_v 1) (se_v 0))))))
abbrev s_is_sign : Stmt := top 14
theorem sc_is_sign : FnScope ["size", "datum", "least", "value"] ["size", "datum"] (defScope s_is_sign) := ⟨rfl, rfl, rfl, by decide +kernel, rfl, by decide +kernel, by decide +kernel⟩
theorem ok_is_sign (B : Bi P K mg) (S : Src K mg "is_sign" s_is_sign ["size", "datum"]) (C_is_value : Can P w K mg base 1 "is_value" ["size", "datum"] (spD ⟨K, mg⟩ [] m_is_value)) : Can P w K mg base 2 "is_sign" ["size", "datum"] (spD ⟨K, mg⟩ [] m_is_sign) := Can.of (k := 1) S sc_is_sign fun f cdv A outer s H E fx hr =>
  sss_cons (ss_if (st_not (st_truth (se_isa rfl B.b_isinstance rfl rfl B.b_tuple rfl (se_v 1)))) (sss_one (ss_ret (se_bl))) (sss_nil)) (sss_cons (ss_asg (se_int) (sg_v 2 sc_is_sign.nd)) (sss_cons (ss_for (passes_of rfl) rfl (si_seq (se_v 1)) (sg_v 3 sc_is_sign.nd) (sss_cons (ss_if (SW.st (sw_or (st_not (st_truth (se_own C_is_value (L2N.takes_of rfl rfl rfl rfl) hr (sa_cons (se_v 0) (sa_cons (se_v 3) (sa_nil)))))) (sw_or1 (st_cmp os_lt (se_v 3) (se_v 2) (nomark _))))) (sss_one (ss_ret (se_bl))) (sss_nil)) (sss_one (ss_asg (se_op os_add (se_v 3) (se_int)) (sg_v 2 sc_is_sign.nd))))) (sss_one (ss_ret (se_bl)))))
abbrev s_is_name : Stmt := top 23
theorem sc_is_name : FnScope ["text", "char"] ["text"] (defScope s_is_name) := ⟨rfl, rfl, rfl, by decide +kernel, rfl, by decide +kernel, by decide +kernel⟩
theorem ok_is_name (B : Bi P K mg) (S : Src K mg "is_name" s_is_name ["text"])  : Can P w K mg base 1 "is_name" ["text"] (spD ⟨K, mg⟩ [] m_is_name) := Can.of (k := 0) S sc_is_name fun f cdv A outer s H E fx hr =>
  sss_cons (ss_if (st_not (st_chain os_le os_le (se_int) (se_callB cs_len rfl B.b_len rfl (sa_cons (se_v 0) (sa_nil))) (se_int))) (sss_one (ss_ret (se_bl))) (sss_nil)) (sss_cons (ss_for (passes_of rfl) rfl (si_str (se_v 0)) (sg_v 1 sc_is_name.nd) (sss_one (ss_if (st_not (st_chain os_le os_le (se_str) (se_v 1) (se_str))) (sss_one (ss_ret (se_bl))) (sss_nil)))) (sss_one (ss_ret (se_bl))))
abbrev s_row_count : Stmt := top 15
theorem sc_row_count : FnScope ["size", "places", "count", "_"] ["size", "places"] (defScope s_row_count) := ⟨rfl, rfl, rfl, by decide +kernel, rfl, by decide +kernel, by decide +kernel⟩
theorem ok_row_count (B : Bi P K mg) (S : Src K mg "row_count" s_row_count ["size", "places"])  : Can P w K mg base 1 "row_count" ["size", "places"] (spD ⟨K, mg⟩ [] m_row_count) := Can.of (k := 0) S sc_row_count fun f cdv A outer s H E fx hr =>
  sss_cons (ss_asg (se_int) (sg_v 2 sc_row_count.nd)) (sss_cons (ss_for (passes_of rfl) rfl (si_range1 rfl B.b_range (sa_cons (se_v 1) (sa_nil))) (sg_v 3 sc_row_count.nd) (sss_one (ss_asg (se_op os_mul (se_v 2) (se_v 0)) (sg_v 2 sc_row_count.nd)))) (sss_one (ss_ret (se_v 2))))
abbrev s_is_table : Stmt := top 24
theorem sc_is_table : FnScope ["size", "places", "entries", "count", "entry"] ["size", "places", "entries"] (defScope s_is_table) := ⟨rfl, rfl, rfl, by decide +kernel, rfl, by decide +kernel, by decide +kernel⟩
theorem ok_is_table (B : Bi P K mg) (S : Src K mg "is_table" s_is_table ["size", "places", "entries"]) (C_row_count : Can P w K mg base 1 "row_count" ["size", "places"] (spD ⟨K, mg⟩ [] m_row_count)) (C_is_sign : Can P w K mg base 2 "is_sign" ["size", "datum"] (spD ⟨K, mg⟩ [] m_is_sign)) : Can P w K mg base 3 "is_table" ["size", "places", "entries"] (spD ⟨K, mg⟩ [] m_is_table) := Can.of (k := 2) S sc_is_table fun f cdv A outer s H E fx hr =>
  sss_cons (ss_if (st_not (st_chain os_le os_le (se_int) (se_v 1) (se_gi B.g_PLACE_LIMIT))) (sss_one (ss_ret (se_bl))) (sss_nil)) (sss_cons (ss_asg (se_own C_row_count (L2N.takes_of rfl rfl rfl rfl) hr (sa_cons (se_v 0) (sa_cons (se_v 1) (sa_nil)))) (sg_v 3 sc_is_table.nd)) (sss_cons (ss_if (SW.st (sw_or (st_cmp os_gt (se_v 3) (se_gi B.g_ROW_LIMIT) (nomark _)) (sw_or1 (st_cmp (os_ne (u64 hr)) (se_callB cs_len rfl B.b_len rfl (sa_cons (se_v 2) (sa_nil))) (se_v 3) (nomark _))))) (sss_one (ss_ret (se_bl))) (sss_nil)) (sss_cons (ss_for (passes_of rfl) rfl (si_seq (se_v 2)) (sg_v 4 sc_is_table.nd) (sss_one (ss_if (SW.st (sw_or (st_cmp (os_eq (u64 hr)) (se_callB cs_len rfl B.b_len rfl (sa_cons (se_v 4) (sa_nil))) (se_int) (nomark _)) (sw_or1 (st_not (st_truth (se_own C_is_sign (L2N.takes_of rfl rfl rfl rfl) hr (sa_cons (se_v 0) (sa_cons (se_v 4) (sa_nil))))))))) (sss_one (ss_ret (se_bl))) (sss_nil)))) (sss_one (ss_ret (se_bl))))))
abbrev s_matrix_fault : Stmt := top 25
theorem sc_matrix_fault : FnScope ["size", "designated", "tables", "names", "name", "places", "entries"] ["size", "designated", "tables"] (defScope s_matrix_fault) := ⟨rfl, rfl, rfl, by decide +kernel, rfl, by decide +kernel, by decide +kernel⟩
theorem ok_matrix_fault (B : Bi P K mg) (S : Src K mg "matrix_fault" s_matrix_fault ["size", "designated", "tables"]) (C_is_sign : Can P w K mg base 2 "is_sign" ["size", "datum"] (spD ⟨K, mg⟩ [] m_is_sign)) (C_is_name : Can P w K mg base 1 "is_name" ["text"] (spD ⟨K, mg⟩ [] m_is_name)) (C_is_table : Can P w K mg base 3 "is_table" ["size", "places", "entries"] (spD ⟨K, mg⟩ [] m_is_table)) : Can P w K mg base 4 "matrix_fault" ["size", "designated", "tables"] (spD ⟨K, mg⟩ [] m_matrix_fault) := Can.of (k := 3) S sc_matrix_fault fun f cdv A outer s H E fx hr =>
  sss_cons (ss_if (st_not (st_chain os_le os_le (se_gi B.g_LEAST_SIZE) (se_v 0) (se_gi B.g_GREATEST_SIZE))) (sss_one (ss_ret (se_int))) (sss_nil)) (sss_cons (ss_if (SW.st (sw_or (st_not (st_truth (se_own C_is_sign (L2N.takes_of rfl rfl rfl rfl) hr (sa_cons (se_v 0) (sa_cons (se_v 1) (sa_nil)))))) (sw_or1 (st_not (st_chain os_lt os_lt (se_int) (se_callB cs_len rfl B.b_len rfl (sa_cons (se_v 1) (sa_nil))) (se_v 0)))))) (sss_one (ss_ret (se_int))) (sss_nil)) (sss_cons (ss_asg (se_lst (sa_nil)) (sg_v 3 sc_matrix_fault.nd)) (sss_cons (ss_for (passes_of rfl) rfl (si_seq (se_v 2)) (sg_tup rfl (sgs_cons (sg_v 4 sc_matrix_fault.nd) (sgs_cons (sg_v 5 sc_matrix_fault.nd) (sgs_cons (sg_v 6 sc_matrix_fault.nd) (sgs_nil))))) (sss_cons (ss_if (SW.st (sw_or (st_cmp (os_eq (u64 hr)) (se_callB cs_len rfl B.b_len rfl (sa_cons (se_v 3) (sa_nil))) (se_gi B.g_TABLE_LIMIT) (nomark _)) (sw_or1 (st_cmp (os_in (u65 hr)) (se_v 4) (se_v 3) (by with_unfolding_all rfl))))) (sss_one (ss_ret (se_op os_add (se_int) (se_callB cs_len rfl B.b_len rfl (sa_cons (se_v 3) (sa_nil)))))) (sss_nil)) (sss_cons (ss_if (SW.st (sw_or (st_not (st_truth (se_own C_is_name (L2N.takes_of rfl rfl rfl rfl) hr (sa_cons (se_v 4) (sa_nil))))) (sw_or1 (st_not (st_truth (se_own C_is_table (L2N.takes_of rfl rfl rfl rfl) hr (sa_cons (se_v 0) (sa_cons (se_v 5) (sa_cons (se_v 6) (sa_nil)))))))))) (sss_one (ss_ret (se_op os_add (se_int) (se_callB cs_len rfl B.b_len rfl (sa_cons (se_v 3) (sa_nil)))))) (sss_nil)) (sss_one (ss_expr (se_mut (i := 3) PySem.F.plainAttrs_list PySem.F.slot_list_append PySem.F.type_list_append ms_append rfl (by first | exact Or.inl rfl | exact Or.inr (Or.inl rfl) | exact Or.inr (Or.inr rfl)) (sa_cons (se_v 4) (sa_nil)))))))) (sss_one (ss_ret (se_non))))))
abbrev s_loose_table : Stmt := top 26
theorem sc_loose_table : FnScope ["tables", "name", "_", "entries", "entry"] ["tables"] (defScope s_loose_table) := ⟨rfl, rfl, rfl, by decide +kernel, rfl, by decide +kernel, by decide +kernel⟩
theorem ok_loose_table (B : Bi P K mg) (S : Src K mg "loose_table" s_loose_table ["tables"])  : Can P w K mg base 1 "loose_table" ["tables"] (spD ⟨K, mg⟩ [] m_loose_table) := Can.of (k := 0) S sc_loose_table fun f cdv A outer s H E fx hr =>
  sss_cons (ss_for (passes_of rfl) rfl (si_seq (se_v 0)) (sg_tup rfl (sgs_cons (sg_v 1 sc_loose_table.nd) (sgs_cons (sg_v 2 sc_loose_table.nd) (sgs_cons (sg_v 3 sc_loose_table.nd) (sgs_nil))))) (sss_one (ss_for (passes_of rfl) rfl (si_seq (se_v 3)) (sg_v 4 sc_loose_table.nd) (sss_one (ss_if (st_cmp os_gt (se_callB cs_len rfl B.b_len rfl (sa_cons (se_v 4) (sa_nil))) (se_int) (nomark _)) (sss_one (ss_ret (se_v 1))) (sss_nil)))))) (sss_one (ss_ret (se_non)))
abbrev s_Matrix___init__ : Stmt := inClass (top 27) 2
theorem sc_Matrix___init__ : FnScope ["self", "size", "designated", "tables", "place", "name", "places", "entries", "table"] ["self", "size", "designated", "tables"] (defScope s_Matrix___init__) := ⟨rfl, rfl, rfl, by decide +kernel, rfl, by decide +kernel, by decide +kernel⟩
theorem ok_Matrix___init__ (B : Bi P K mg) {C f : Addr} (hc : mg "Matrix" = some (.ref C)) (M : Mk K C f) (F : SrcM K "__init__" "Matrix.__init__" s_Matrix___init__ ["self", "size", "designated", "tables"] f) (C_matrix_fault : Can P w K mg base 4 "matrix_fault" ["size", "designated", "tables"] (spD ⟨K, mg⟩ [] m_matrix_fault)) (C_loose_table : Can P w K mg base 1 "loose_table" ["tables"] (spD ⟨K, mg⟩ [] m_loose_table)) : CanMk P w K mg base 5 "Matrix" m_Matrix___init__ := CanMk.of (k := 4) hc M F sc_Matrix___init__ fun f cdv A outer s H E fx hr =>
  sss_cons (ss_asg (se_own C_matrix_fault (L2N.takes_of rfl rfl rfl rfl) hr (sa_cons (se_v 1) (sa_cons (se_v 2) (sa_cons (se_v 3) (sa_nil))))) (sg_v 4 sc_Matrix___init__.nd)) (sss_cons (ss_if (st_notN (se_v 4)) (sss_one (ss_err rfl (L2N.takes_of rfl rfl rfl rfl) B.r_BadMatrix hr (se_v 4))) (sss_nil)) (sss_cons (ss_setF (i := 0) B.cl rfl (by first | exact Or.inl rfl | exact Or.inr (Or.inl rfl) | exact Or.inr (Or.inr rfl)) (se_v 1)) (sss_cons (ss_setF (i := 0) B.cl rfl (by first | exact Or.inl rfl | exact Or.inr (Or.inl rfl) | exact Or.inr (Or.inr rfl)) (se_v 2)) (sss_cons (ss_setF (i := 0) B.cl rfl (by first | exact Or.inl rfl | exact Or.inr (Or.inl rfl) | exact Or.inr (Or.inr rfl)) (se_v 3)) (sss_cons (ss_setF (i := 0) B.cl rfl (by first | exact Or.inl rfl | exact Or.inr (Or.inl rfl) | exact Or.inr (Or.inr rfl)) (se_callTy cs_tuple rfl B.b_tuple rfl (sa_cons (se_lc (own := [("table", 8)]) rfl sc_Matrix___init__.nd (si_seq (se_v 3)) (blkOk_by (N := ["self", "size", "designated", "tables", "place", "name", "places", "entries", "table"]) (sc := defScope s_Matrix___init__) (by decide +kernel)) (SGb.of (fun fx s H C cl fp => sg_v 8 sc_Matrix___init__.nd)) (STb.nil) (SEb.of (fun fx s H C cl fp => se_ix (se_v 8) (se_int))) (by decide)) (sa_nil)))) (sss_cons (ss_setF (i := 0) B.cl rfl (by first | exact Or.inl rfl | exact Or.inr (Or.inl rfl) | exact Or.inr (Or.inr rfl)) (se_own C_loose_table (L2N.takes_of rfl rfl rfl rfl) hr (sa_cons (se_v 3) (sa_nil)))) (sss_fill (i := 0) (it := 3) (jn := 5) (jp := 6) (je := 7) (passes_of rfl) rfl (L2.hu_of hr) B.cl sc_Matrix___init__.nd rfl (by first | exact Or.inl rfl | exact Or.inr (Or.inl rfl) | exact Or.inr (Or.inr rfl)) rfl (by first | exact Or.inl rfl | exact Or.inr (Or.inl rfl) | exact Or.inr (Or.inr rfl)) rfl rfl rfl rfl rfl rfl)))))))
abbrev s__law_near_names : Stmt := top 57
theorem sc__law_near_names : FnScope ["names", "near", "name"] ["names"] (defScope s__law_near_names) := ⟨rfl, rfl, rfl, by decide +kernel, rfl, by decide +kernel, by decide +kernel⟩
theorem ok__law_near_names (B : Bi P K mg) (S : Src K mg "_law_near_names" s__law_near_names ["names"])  : Can P w K mg base 1 "_law_near_names" ["names"] (spD ⟨K, mg⟩ [] m__law_near_names) := Can.of (k := 0) S sc__law_near_names fun f cdv A outer s H E fx hr =>
  sss_cons (ss_asg (se_lst (sa_cons (se_str) (sa_cons (se_str) (sa_cons (se_str) (sa_cons (se_str) (sa_cons (se_str) (sa_cons (se_str) (sa_cons (se_str) (sa_cons (se_str) (sa_cons (se_str) (sa_nil))))))))))) (sg_v 1 sc__law_near_names.nd)) (sss_cons (ss_for (passes_of rfl) rfl (si_seq (se_v 0)) (sg_v 2 sc__law_near_names.nd) (sss_one (ss_asg (se_op os_add (se_v 1) (se_lst (sa_cons (se_v 2) (sa_cons (se_op os_add (se_v 2) (se_str)) (sa_cons (se_slice (se_v 2) (so_none) (so_some (se_un os_neg (se_int)))) (sa_cons (se_m0 ms_upper PySem.F.slot_str_upper PySem.F.type_str_upper (se_v 2)) (sa_cons (se_op os_add (se_v 2) (se_str)) (sa_cons (se_slice (se_v 2) (so_none) (so_some (se_int))) (sa_cons (se_slice (se_v 2) (so_some (se_int)) (so_none)) (sa_nil)))))))))) (sg_v 1 sc__law_near_names.nd)))) (sss_one (ss_ret (se_v 1))))
abbrev s__law_exact : Stmt := top 36
theorem sc__law_exact : FnScope ["actual", "expected", "k"] ["actual", "expected"] (defScope s__law_exact) := ⟨rfl, rfl, rfl, by decide +kernel, rfl, by decide +kernel, by decide +kernel⟩
theorem okr__law_exact (B : Bi P K mg) (S : Src K mg "_law_exact" s__law_exact ["actual", "expected"])  : ∀ n, Can P w K mg base (0 + n) "_law_exact" ["actual", "expected"] (spD ⟨K, mg⟩ [] (r__law_exact n))
  | 0 => Can.no S
  | n + 1 => by
    have CR := okr__law_exact B S  n
    have hkj : 0 + n ≤ 0 + n := Nat.le_refl _
    exact Can.of (k := 0 + n) S sc__law_exact fun f cdv A outer s H E fx hr =>
      sss_cons (ss_if (st_truth (se_isa rfl B.b_isinstance rfl rfl B.b_tuple rfl (se_v 1))) (sss_cons (ss_if (SW.st (sw_or (st_not (st_truth (se_isa rfl B.b_isinstance rfl rfl B.b_tuple rfl (se_v 0)))) (sw_or1 (st_cmp (os_ne (u64 hr)) (se_callB cs_len rfl B.b_len rfl (sa_cons (se_v 0) (sa_nil))) (se_callB cs_len rfl B.b_len rfl (sa_cons (se_v 1) (sa_nil))) (nomark _))))) (sss_one (ss_ret (se_bl))) (sss_nil)) (sss_cons (ss_for (passes_of rfl) rfl (si_range1 rfl B.b_range (sa_cons (se_callB cs_len rfl B.b_len rfl (sa_cons (se_v 1) (sa_nil))) (sa_nil))) (sg_v 2 sc__law_exact.nd) (sss_one (ss_if (st_not (st_truth (se_own CR (L2N.takes_of rfl rfl rfl rfl) hr (sa_cons (se_ix (se_v 0) (se_v 2)) (sa_cons (se_ix (se_v 1) (se_v 2)) (sa_nil))) (hkj := hkj)))) (sss_one (ss_ret (se_bl))) (sss_nil)))) (sss_one (ss_ret (se_bl))))) (sss_nil)) (sss_cons (ss_if (st_isN (se_v 1)) (sss_one (ss_ret (se_isN (se_v 0)))) (sss_nil)) (sss_cons (ss_if (st_truth (se_isa rfl B.b_isinstance rfl rfl B.b_bool rfl (se_v 1))) (sss_one (ss_ret (se_and (se_isa rfl B.b_isinstance rfl rfl B.b_bool rfl (se_v 0)) (se_one (se_cmp (os_eq (u64 hr)) (se_v 0) (se_v 1) (nomark _)))))) (sss_nil)) (sss_cons (ss_if (st_truth (se_isa rfl B.b_isinstance rfl rfl B.b_int rfl (se_v 1))) (sss_one (ss_ret (se_and (se_isa rfl B.b_isinstance rfl rfl B.b_int rfl (se_v 0)) (se_and (se_not (se_isa rfl B.b_isinstance rfl rfl B.b_bool rfl (se_v 0))) (se_one (se_cmp (os_eq (u64 hr)) (se_v 0) (se_v 1) (nomark _))))))) (sss_nil)) (sss_one (ss_ret (se_and (se_isa rfl B.b_isinstance rfl rfl B.b_str rfl (se_v 0)) (se_one (se_cmp (os_eq (u64 hr)) (se_v 0) (se_v 1) (nomark _)))))))))
theorem ok__law_exact (B : Bi P K mg) (S : Src K mg "_law_exact" s__law_exact ["actual", "expected"])  : Can P w K mg base 8 "_law_exact" ["actual", "expected"] (spD ⟨K, mg⟩ [] m__law_exact) := okr__law_exact B S  8
abbrev s_Matrix_places : Stmt := inClass (top 27) 7
theorem sc_Matrix_places : FnScope ["self", "name"] ["self", "name"] (defScope s_Matrix_places) := ⟨rfl, rfl, rfl, by decide +kernel, rfl, by decide +kernel, by decide +kernel⟩
theorem ok_Matrix_places (B : Bi P K mg) {C f : Addr} (hc : mg "Matrix" = some (.ref C)) (hC : Cls K C) (hp : Meth K C "places" f) (F : SrcM K "places" "Matrix.places" s_Matrix_places ["self", "name"] f)  : CanMe P w K mg base 1 "Matrix" "places" [] m_Matrix_places := CanMe.of (k := 0) hc hC hp F sc_Matrix_places fun f cdv A outer s H E fx hr =>
  sss_cons (ss_if (st_cmp (os_dNotIn (u65 hr)) (se_v 1) (se_fld B.cl (se_v 0)) (by with_unfolding_all rfl)) (sss_one (ss_err rfl (L2N.takes_of rfl rfl rfl rfl) B.r_NoConnective hr (se_v 1))) (sss_nil)) (sss_one (ss_ret (se_dget (L2.hu_of hr) (se_fld B.cl (se_v 0)) (se_v 1))))
abbrev s_need_one_kind : Stmt := top 29
theorem sc_need_one_kind : FnScope ["one", "other", "name"] ["one", "other"] (defScope s_need_one_kind) := ⟨rfl, rfl, rfl, by decide +kernel, rfl, by decide +kernel, by decide +kernel⟩
theorem ok_need_one_kind (B : Bi P K mg) (S : Src K mg "need_one_kind" s_need_one_kind ["one", "other"]) (C_Matrix_places : CanMe P w K mg base 1 "Matrix" "places" [] m_Matrix_places) : Can P w K mg base 2 "need_one_kind" ["one", "other"] (spD ⟨K, mg⟩ [] m_need_one_kind) := Can.of (k := 1) S sc_need_one_kind fun f cdv A outer s H E fx hr =>
  sss_one (ss_for (passes_of rfl) rfl (si_seq (se_sortSetA rfl (u64 hr) rfl B.b_sorted rfl B.b_set (se_op os_add (se_fld B.cl (se_v 0)) (se_fld B.cl (se_v 1))))) (sg_v 2 sc_need_one_kind.nd) (sss_cons (ss_if (SW.st (sw_or (st_cmp (os_notIn (u65 hr)) (se_v 2) (se_fld B.cl (se_v 0)) (by with_unfolding_all rfl)) (sw_or1 (st_cmp (os_notIn (u65 hr)) (se_v 2) (se_fld B.cl (se_v 1)) (by with_unfolding_all rfl))))) (sss_one (ss_err rfl (L2N.takes_of rfl rfl rfl rfl) B.r_Unlike hr (se_v 2))) (sss_nil)) (sss_one (ss_if (st_cmp (os_ne (u64 hr)) (se_me C_Matrix_places (L2N.takes_of rfl rfl rfl rfl) hr (se_v 0) (sa_cons (se_v 2) (sa_nil))) (se_me C_Matrix_places (L2N.takes_of rfl rfl rfl rfl) hr (se_v 1) (sa_cons (se_v 2) (sa_nil))) (nomark _)) (sss_one (ss_err rfl (L2N.takes_of rfl rfl rfl rfl) B.r_Unlike hr (se_v 2))) (sss_nil)))))
abbrev s__law_kinds : Stmt := top 52
theorem sc__law_kinds : FnScope ["e", "kinds"] ["e"] (defScope s__law_kinds) := ⟨rfl, rfl, rfl, by decide +kernel, rfl, by decide +kernel, by decide +kernel⟩
theorem ok__law_kinds (B : Bi P K mg) (S : Src K mg "_law_kinds" s__law_kinds ["e"])  : CanX P w K mg base 1 "_law_kinds" m__law_kinds := CanX.of (k := 0) (body := b__law_kinds) S sc__law_kinds fun f p cls d cdv A outer s H E fx x hz hf hr hA =>
  sss_cons (ss_asg (se_lst (sa_nil)) (sg_v 1 sc__law_kinds.nd)) (sss_cons (ss_if (st_truth (se_xisY List.mem_cons_self B.ex hA hz hf rfl B.b_isinstance rfl rfl (by first | exact Or.inl rfl | exact Or.inr (Or.inl rfl) | exact Or.inr (Or.inr rfl)))) (sss_one (ss_expr (se_mut (i := 1) PySem.F.plainAttrs_list PySem.F.slot_list_append PySem.F.type_list_append ms_append rfl (by first | exact Or.inl rfl | exact Or.inr (Or.inl rfl) | exact Or.inr (Or.inr rfl)) (sa_cons (se_str) (sa_nil))))) (sss_nil)) (sss_cons (ss_if (st_truth (se_xisY List.mem_cons_self B.ex hA hz hf rfl B.b_isinstance rfl rfl (by first | exact Or.inl rfl | exact Or.inr (Or.inl rfl) | exact Or.inr (Or.inr rfl)))) (sss_one (ss_expr (se_mut (i := 1) PySem.F.plainAttrs_list PySem.F.slot_list_append PySem.F.type_list_append ms_append rfl (by first | exact Or.inl rfl | exact Or.inr (Or.inl rfl) | exact Or.inr (Or.inr rfl)) (sa_cons (se_str) (sa_nil))))) (sss_nil)) (sss_cons (ss_if (st_truth (se_xisY List.mem_cons_self B.ex hA hz hf rfl B.b_isinstance rfl rfl (by first | exact Or.inl rfl | exact Or.inr (Or.inl rfl) | exact Or.inr (Or.inr rfl)))) (sss_one (ss_expr (se_mut (i := 1) PySem.F.plainAttrs_list PySem.F.slot_list_append PySem.F.type_list_append ms_append rfl (by first | exact Or.inl rfl | exact Or.inr (Or.inl rfl) | exact Or.inr (Or.inr rfl)) (sa_cons (se_str) (sa_nil))))) (sss_nil)) (sss_cons (ss_if (st_truth (se_xisY List.mem_cons_self B.ex hA hz hf rfl B.b_isinstance rfl rfl (by first | exact Or.inl rfl | exact Or.inr (Or.inl rfl) | exact Or.inr (Or.inr rfl)))) (sss_one (ss_expr (se_mut (i := 1) PySem.F.plainAttrs_list PySem.F.slot_list_append PySem.F.type_list_append ms_append rfl (by first | exact Or.inl rfl | exact Or.inr (Or.inl rfl) | exact Or.inr (Or.inr rfl)) (sa_cons (se_str) (sa_nil))))) (sss_nil)) (sss_cons (ss_if (st_truth (se_xisY List.mem_cons_self B.ex hA hz hf rfl B.b_isinstance rfl rfl (by first | exact Or.inl rfl | exact Or.inr (Or.inl rfl) | exact Or.inr (Or.inr rfl)))) (sss_one (ss_expr (se_mut (i := 1) PySem.F.plainAttrs_list PySem.F.slot_list_append PySem.F.type_list_append ms_append rfl (by first | exact Or.inl rfl | exact Or.inr (Or.inl rfl) | exact Or.inr (Or.inr rfl)) (sa_cons (se_str) (sa_nil))))) (sss_nil)) (sss_cons (ss_if (st_truth (se_xisY List.mem_cons_self B.ex hA hz hf rfl B.b_isinstance rfl rfl (by first | exact Or.inl rfl | exact Or.inr (Or.inl rfl) | exact Or.inr (Or.inr rfl)))) (sss_one (ss_expr (se_mut (i := 1) PySem.F.plainAttrs_list PySem.F.slot_list_append PySem.F.type_list_append ms_append rfl (by first | exact Or.inl rfl | exact Or.inr (Or.inl rfl) | exact Or.inr (Or.inr rfl)) (sa_cons (se_str) (sa_nil))))) (sss_nil)) (sss_cons (ss_if (st_truth (se_xisY List.mem_cons_self B.ex hA hz hf rfl B.b_isinstance rfl rfl (by first | exact Or.inl rfl | exact Or.inr (Or.inl rfl) | exact Or.inr (Or.inr rfl)))) (sss_one (ss_expr (se_mut (i := 1) PySem.F.plainAttrs_list PySem.F.slot_list_append PySem.F.type_list_append ms_append rfl (by first | exact Or.inl rfl | exact Or.inr (Or.inl rfl) | exact Or.inr (Or.inr rfl)) (sa_cons (se_str) (sa_nil))))) (sss_nil)) (sss_cons (ss_if (st_truth (se_xisY List.mem_cons_self B.ex hA hz hf rfl B.b_isinstance rfl rfl (by first | exact Or.inl rfl | exact Or.inr (Or.inl rfl) | exact Or.inr (Or.inr rfl)))) (sss_one (ss_expr (se_mut (i := 1) PySem.F.plainAttrs_list PySem.F.slot_list_append PySem.F.type_list_append ms_append rfl (by first | exact Or.inl rfl | exact Or.inr (Or.inl rfl) | exact Or.inr (Or.inr rfl)) (sa_cons (se_str) (sa_nil))))) (sss_nil)) (sss_cons (ss_if (st_truth (se_xisY List.mem_cons_self B.ex hA hz hf rfl B.b_isinstance rfl rfl (by first | exact Or.inl rfl | exact Or.inr (Or.inl rfl) | exact Or.inr (Or.inr rfl)))) (sss_one (ss_expr (se_mut (i := 1) PySem.F.plainAttrs_list PySem.F.slot_list_append PySem.F.type_list_append ms_append rfl (by first | exact Or.inl rfl | exact Or.inr (Or.inl rfl) | exact Or.inr (Or.inr rfl)) (sa_cons (se_str) (sa_nil))))) (sss_nil)) (sss_cons (ss_if (st_truth (se_xisY List.mem_cons_self B.ex hA hz hf rfl B.b_isinstance rfl rfl (by first | exact Or.inl rfl | exact Or.inr (Or.inl rfl) | exact Or.inr (Or.inr rfl)))) (sss_one (ss_expr (se_mut (i := 1) PySem.F.plainAttrs_list PySem.F.slot_list_append PySem.F.type_list_append ms_append rfl (by first | exact Or.inl rfl | exact Or.inr (Or.inl rfl) | exact Or.inr (Or.inr rfl)) (sa_cons (se_str) (sa_nil))))) (sss_nil)) (sss_one (ss_ret (se_v 1)))))))))))))
abbrev s_need_plain : Stmt := top 28
theorem sc_need_plain : FnScope ["matrix"] ["matrix"] (defScope s_need_plain) := ⟨rfl, rfl, rfl, by decide +kernel, rfl, by decide +kernel, by decide +kernel⟩
theorem ok_need_plain (B : Bi P K mg) (S : Src K mg "need_plain" s_need_plain ["matrix"])  : Can P w K mg base 1 "need_plain" ["matrix"] (spD ⟨K, mg⟩ [] m_need_plain) := Can.of (k := 0) S sc_need_plain fun f cdv A outer s H E fx hr =>
  sss_one (ss_if (st_notN (se_fld B.cl (se_v 0))) (sss_one (ss_err rfl (L2N.takes_of rfl rfl rfl rfl) B.r_NotPlain hr (se_fld B.cl (se_v 0)))) (sss_nil))
abbrev s_Matrix_entries : Stmt := inClass (top 27) 8
theorem sc_Matrix_entries : FnScope ["self", "name"] ["self", "name"] (defScope s_Matrix_entries) := ⟨rfl, rfl, rfl, by decide +kernel, rfl, by decide +kernel, by decide +kernel⟩
theorem ok_Matrix_entries (B : Bi P K mg) {C f : Addr} (hc : mg "Matrix" = some (.ref C)) (hC : Cls K C) (hp : Meth K C "entries" f) (F : SrcM K "entries" "Matrix.entries" s_Matrix_entries ["self", "name"] f)  : CanMe P w K mg base 1 "Matrix" "entries" [] m_Matrix_entries := CanMe.of (k := 0) hc hC hp F sc_Matrix_entries fun f cdv A outer s H E fx hr =>
  sss_cons (ss_if (st_cmp (os_dNotIn (u65 hr)) (se_v 1) (se_fld B.cl (se_v 0)) (by with_unfolding_all rfl)) (sss_one (ss_err rfl (L2N.takes_of rfl rfl rfl rfl) B.r_NoConnective hr (se_v 1))) (sss_nil)) (sss_one (ss_ret (se_dget (L2.hu_of hr) (se_fld B.cl (se_v 0)) (se_v 1))))
abbrev s_row_number : Stmt := top 16
theorem sc_row_number : FnScope ["size", "row", "number", "value"] ["size", "row"] (defScope s_row_number) := ⟨rfl, rfl, rfl, by decide +kernel, rfl, by decide +kernel, by decide +kernel⟩
theorem ok_row_number (B : Bi P K mg) (S : Src K mg "row_number" s_row_number ["size", "row"])  : Can P w K mg base 1 "row_number" ["size", "row"] (spD ⟨K, mg⟩ [] m_row_number) := Can.of (k := 0) S sc_row_number fun f cdv A outer s H E fx hr =>
  sss_cons (ss_asg (se_int) (sg_v 2 sc_row_number.nd)) (sss_cons (ss_for (passes_of rfl) rfl (si_seq (se_v 1)) (sg_v 3 sc_row_number.nd) (sss_one (ss_asg (se_op os_add (se_op os_mul (se_v 2) (se_v 0)) (se_v 3)) (sg_v 2 sc_row_number.nd)))) (sss_one (ss_ret (se_v 2))))
abbrev s_Matrix_entry : Stmt := inClass (top 27) 9
theorem sc_Matrix_entry : FnScope ["self", "name", "row"] ["self", "name", "row"] (defScope s_Matrix_entry) := ⟨rfl, rfl, rfl, by decide +kernel, rfl, by decide +kernel, by decide +kernel⟩
theorem ok_Matrix_entry (B : Bi P K mg) {C f : Addr} (hc : mg "Matrix" = some (.ref C)) (hC : Cls K C) (hp : Meth K C "entry" f) (F : SrcM K "entry" "Matrix.entry" s_Matrix_entry ["self", "name", "row"] f) (C_row_number : Can P w K mg base 1 "row_number" ["size", "row"] (spD ⟨K, mg⟩ [] m_row_number)) : CanMe P w K mg base 2 "Matrix" "entry" [] m_Matrix_entry := CanMe.of (k := 1) hc hC hp F sc_Matrix_entry fun f cdv A outer s H E fx hr =>
  sss_cons (ss_if (st_cmp (os_dNotIn (u65 hr)) (se_v 1) (se_fld B.cl (se_v 0)) (by with_unfolding_all rfl)) (sss_one (ss_err rfl (L2N.takes_of rfl rfl rfl rfl) B.r_NoConnective hr (se_v 1))) (sss_nil)) (sss_one (ss_ret (se_ix (se_dget (L2.hu_of hr) (se_fld B.cl (se_v 0)) (se_v 1)) (se_own C_row_number (L2N.takes_of rfl rfl rfl rfl) hr (sa_cons (se_fld B.cl (se_v 0)) (sa_cons (se_v 2) (sa_nil)))))))
abbrev s_Matrix_plain_table : Stmt := inClass (top 27) 10
theorem sc_Matrix_plain_table : FnScope ["self", "name", "values", "entry"] ["self", "name"] (defScope s_Matrix_plain_table) := ⟨rfl, rfl, rfl, by decide +kernel, rfl, by decide +kernel, by decide +kernel⟩
theorem ok_Matrix_plain_table (B : Bi P K mg) {C f : Addr} (hc : mg "Matrix" = some (.ref C)) (hC : Cls K C) (hp : Meth K C "plain_table" f) (F : SrcM K "plain_table" "Matrix.plain_table" s_Matrix_plain_table ["self", "name"] f) (C_Matrix_entries : CanMe P w K mg base 1 "Matrix" "entries" [] m_Matrix_entries) : CanMe P w K mg base 2 "Matrix" "plain_table" [] m_Matrix_plain_table := CanMe.of (k := 1) hc hC hp F sc_Matrix_plain_table fun f cdv A outer s H E fx hr =>
  sss_cons (ss_asg (se_lst (sa_nil)) (sg_v 2 sc_Matrix_plain_table.nd)) (sss_cons (ss_for (passes_of rfl) rfl (si_seq (se_me C_Matrix_entries (L2N.takes_of rfl rfl rfl rfl) hr (se_v 0) (sa_cons (se_v 1) (sa_nil)))) (sg_v 3 sc_Matrix_plain_table.nd) (sss_cons (ss_if (st_cmp os_gt (se_callB cs_len rfl B.b_len rfl (sa_cons (se_v 3) (sa_nil))) (se_int) (nomark _)) (sss_one (ss_err rfl (L2N.takes_of rfl rfl rfl rfl) B.r_NotPlain hr (se_v 1))) (sss_nil)) (sss_one (ss_expr (se_mut (i := 2) PySem.F.plainAttrs_list PySem.F.slot_list_append PySem.F.type_list_append ms_append rfl (by first | exact Or.inl rfl | exact Or.inr (Or.inl rfl) | exact Or.inr (Or.inr rfl)) (sa_cons (se_ix (se_v 3) (se_int)) (sa_nil))))))) (sss_one (ss_ret (se_callTy cs_tuple rfl B.b_tuple rfl (sa_cons (se_v 2) (sa_nil))))))
abbrev s__law_asked : Stmt := top 53
theorem sc__law_asked : FnScope ["way", "matrix", "other", "name", "row", "e", "kinds"] ["way", "matrix", "other", "name", "row"] (defScope s__law_asked) := ⟨rfl, rfl, rfl, by decide +kernel, rfl, by decide +kernel, by decide +kernel⟩
theorem ok__law_asked (B : Bi P K mg) (S : Src K mg "_law_asked" s__law_asked ["way", "matrix", "other", "name", "row"]) (C_Matrix_places : CanMe P w K mg base 1 "Matrix" "places" [] m_Matrix_places) (C_Matrix_entries : CanMe P w K mg base 1 "Matrix" "entries" [] m_Matrix_entries) (C_Matrix_entry : CanMe P w K mg base 2 "Matrix" "entry" [] m_Matrix_entry) (C_Matrix_plain_table : CanMe P w K mg base 2 "Matrix" "plain_table" [] m_Matrix_plain_table) (C_need_plain : Can P w K mg base 1 "need_plain" ["matrix"] (spD ⟨K, mg⟩ [] m_need_plain)) (C_need_one_kind : Can P w K mg base 2 "need_one_kind" ["one", "other"] (spD ⟨K, mg⟩ [] m_need_one_kind)) (C__law_kinds : CanX P w K mg base 1 "_law_kinds" m__law_kinds) : Can P w K mg base 3 "_law_asked" ["way", "matrix", "other", "name", "row"] (spD ⟨K, mg⟩ [] m__law_asked) := Can.of (k := 2) S sc__law_asked fun f cdv A outer s H E fx hr =>
  sss_one (ss_tryAs B.ex rfl rfl sc__law_asked.nd rfl rfl ⟨rfl, by decide, .inl B.n_AnytruthsError.choose_spec⟩ (L2N.takes_of rfl rfl rfl rfl) (fun fx W pn xe tk po => sss_cons (ss_if (st_cmp (os_eq (u64 hr)) (se_v 0) (se_int) (nomark _)) (sss_one (ss_ret (se_tup (sa_cons (se_str) (sa_cons (se_me C_Matrix_places tk hr (se_v 1) (sa_cons (se_v 3) (sa_nil))) (sa_nil)))))) (sss_nil)) (sss_cons (ss_if (st_cmp (os_eq (u64 hr)) (se_v 0) (se_int) (nomark _)) (sss_one (ss_ret (se_tup (sa_cons (se_str) (sa_cons (se_me C_Matrix_entries tk hr (se_v 1) (sa_cons (se_v 3) (sa_nil))) (sa_nil)))))) (sss_nil)) (sss_cons (ss_if (st_cmp (os_eq (u64 hr)) (se_v 0) (se_int) (nomark _)) (sss_one (ss_ret (se_tup (sa_cons (se_str) (sa_cons (se_me C_Matrix_entry tk hr (se_v 1) (sa_cons (se_v 3) (sa_cons (se_v 4) (sa_nil)))) (sa_nil)))))) (sss_nil)) (sss_cons (ss_if (st_cmp (os_eq (u64 hr)) (se_v 0) (se_int) (nomark _)) (sss_one (ss_ret (se_tup (sa_cons (se_str) (sa_cons (se_me C_Matrix_plain_table tk hr (se_v 1) (sa_cons (se_v 3) (sa_nil))) (sa_nil)))))) (sss_nil)) (sss_cons (ss_if (st_cmp (os_eq (u64 hr)) (se_v 0) (se_int) (nomark _)) (sss_one (ss_ret (se_tup (sa_cons (se_str) (sa_cons (se_own C_need_plain tk hr (sa_cons (se_v 1) (sa_nil))) (sa_nil)))))) (sss_nil)) (sss_one (ss_ret (se_tup (sa_cons (se_str) (sa_cons (se_own C_need_one_kind tk hr (sa_cons (se_v 1) (sa_cons (se_v 2) (sa_nil)))) (sa_nil))))))))))) (fun fx x a oe cls d pn hz hf hA => sss_cons (ss_asg (se_callX C__law_kinds hA hz hf hr) (sg_v 6 sc__law_asked.nd)) (sss_cons (ss_if (SW.st (sw_or (st_cmp (os_notIn (by have q := u65 hr; exact q)) (se_v 6) (se_lst (sa_cons (se_lst (sa_cons (se_str) (sa_nil))) (sa_cons (se_lst (sa_cons (se_str) (sa_nil))) (sa_cons (se_lst (sa_cons (se_str) (sa_nil))) (sa_nil))))) (by with_unfolding_all rfl)) (sw_or1 (st_not (st_truth (se_xis B.ex hA hz hf rfl B.b_isinstance rfl rfl (by first | exact Or.inl rfl | exact Or.inr (Or.inl rfl) | exact Or.inr (Or.inr rfl)))))))) (sss_one (ss_ret (se_tup (sa_cons (se_str) (sa_cons (se_non) (sa_nil)))))) (sss_nil)) (sss_one (ss_ret (se_tup (sa_cons (se_ix (se_v 6) (se_int)) (sa_cons (se_xf B.ex hA hz hf rfl (by first | exact Or.inl rfl | exact Or.inr (Or.inl rfl) | exact Or.inr (Or.inr rfl))) (sa_nil)))))))))
abbrev s__law_loose : Stmt := top 54
theorem sc__law_loose : FnScope ["tables", "name", "places", "entries", "entry"] ["tables"] (defScope s__law_loose) := ⟨rfl, rfl, rfl, by decide +kernel, rfl, by decide +kernel, by decide +kernel⟩
theorem ok__law_loose (B : Bi P K mg) (S : Src K mg "_law_loose" s__law_loose ["tables"])  : Can P w K mg base 1 "_law_loose" ["tables"] (spD ⟨K, mg⟩ [] m__law_loose) := Can.of (k := 0) S sc__law_loose fun f cdv A outer s H E fx hr =>
  sss_cons (ss_for (passes_of rfl) rfl (si_seq (se_v 0)) (sg_tup rfl (sgs_cons (sg_v 1 sc__law_loose.nd) (sgs_cons (sg_v 2 sc__law_loose.nd) (sgs_cons (sg_v 3 sc__law_loose.nd) (sgs_nil))))) (sss_one (ss_if (st_cmp os_gt (se_callB cs_len rfl B.b_len rfl (sa_cons (se_lc (own := [("entry", 4)]) rfl sc__law_loose.nd (si_seq (se_v 3)) (blkOk_by (N := ["tables", "name", "places", "entries", "entry"]) (sc := defScope s__law_loose) (by decide +kernel)) (SGb.of (fun fx s H C cl fp => sg_v 4 sc__law_loose.nd)) (STb.one (fun fx s H C cl fp => st_cmp os_gt (se_callB cs_len rfl B.b_len rfl (sa_cons (se_v 4) (sa_nil))) (se_int) (nomark _))) (SEb.of (fun fx s H C cl fp => se_v 4)) (by decide)) (sa_nil))) (se_int) (nomark _)) (sss_one (ss_ret (se_tup (sa_cons (se_str) (sa_cons (se_v 1) (sa_nil)))))) (sss_nil)))) (sss_one (ss_ret (se_tup (sa_cons (se_str) (sa_cons (se_non) (sa_nil))))))
abbrev s__law_rows : Stmt := top 37
theorem sc__law_rows : FnScope ["size", "places", "rows", "k", "longer", "row", "value"] ["size", "places"] (defScope s__law_rows) := ⟨rfl, rfl, rfl, by decide +kernel, rfl, by decide +kernel, by decide +kernel⟩
theorem ok__law_rows (B : Bi P K mg) (S : Src K mg "_law_rows" s__law_rows ["size", "places"])  : Can P w K mg base 1 "_law_rows" ["size", "places"] (spD ⟨K, mg⟩ [] m__law_rows) := Can.of (k := 0) S sc__law_rows fun f cdv A outer s H E fx hr =>
  sss_cons (ss_asg (se_lst (sa_cons (se_tup (sa_nil)) (sa_nil))) (sg_v 2 sc__law_rows.nd)) (sss_cons (ss_for (passes_of rfl) rfl (si_range1 rfl B.b_range (sa_cons (se_v 1) (sa_nil))) (sg_v 3 sc__law_rows.nd) (sss_cons (ss_asg (se_lst (sa_nil)) (sg_v 4 sc__law_rows.nd)) (sss_cons (ss_for (passes_of rfl) rfl (si_seq (se_callTy cs_list rfl B.b_list rfl (sa_cons (se_v 2) (sa_nil)))) (sg_v 5 sc__law_rows.nd) (sss_one (ss_for (passes_of rfl) rfl (si_range1 rfl B.b_range (sa_cons (se_v 0) (sa_nil))) (sg_v 6 sc__law_rows.nd) (sss_one (ss_expr (se_mut (i := 4) PySem.F.plainAttrs_list PySem.F.slot_list_append PySem.F.type_list_append ms_append rfl (by first | exact Or.inl rfl | exact Or.inr (Or.inl rfl) | exact Or.inr (Or.inr rfl)) (sa_cons (se_op os_add (se_v 5) (se_tup (sa_cons (se_v 6) (sa_nil)))) (sa_nil)))))))) (sss_one (ss_asg (se_v 4) (sg_v 2 sc__law_rows.nd)))))) (sss_one (ss_ret (se_v 2))))
abbrev s_Matrix___iter__ : Stmt := inClass (top 27) 6
theorem sc_Matrix___iter__ : FnScope ["self"] ["self"] (defScope s_Matrix___iter__) := ⟨rfl, rfl, rfl, by decide +kernel, rfl, by decide +kernel, by decide +kernel⟩
theorem ok_Matrix___iter__ (B : Bi P K mg) {C f : Addr} (hc : mg "Matrix" = some (.ref C)) (hi : PySem.W.findIn K (.ref C) "__iter__" = some (some (.ref f))) (hf : PySem.W.isFn K (.ref f) = true) (hn : PySem.W.findIn K (.ref C) "__contains__" = some none) (hC : Cls K C) (hN : NoAttr K C "names") (F : SrcM K "__iter__" "Matrix.__iter__" s_Matrix___iter__ ["self"] f) : OwnIt P w K mg base 1 "Matrix" "names" := OwnIt.of (k := 0) hc hi hf hn F sc_Matrix___iter__ rfl rfl hC hN B.b_iter (fun _ _ _ _ _ _ => rfl) (fun _ _ _ _ _ _ => by first | exact Or.inl rfl | exact Or.inr (Or.inl rfl))
abbrev s__law_name_right : Stmt := top 55
theorem sc__law_name_right : FnScope ["matrix", "size", "tables", "name", "found", "way", "places", "entries", "due", "rows", "k", "table", "entry"] ["matrix", "size", "tables", "name"] (defScope s__law_name_right) := ⟨rfl, rfl, rfl, by decide +kernel, rfl, by decide +kernel, by decide +kernel⟩
theorem ok__law_name_right (B : Bi P K mg) (S : Src K mg "_law_name_right" s__law_name_right ["matrix", "size", "tables", "name"]) (C_Matrix___iter__ : OwnIt P w K mg base 1 "Matrix" "names") (C__law_asked : Can P w K mg base 3 "_law_asked" ["way", "matrix", "other", "name", "row"] (spD ⟨K, mg⟩ [] m__law_asked)) (C__law_exact : Can P w K mg base 8 "_law_exact" ["actual", "expected"] (spD ⟨K, mg⟩ [] m__law_exact)) (C__law_loose : Can P w K mg base 1 "_law_loose" ["tables"] (spD ⟨K, mg⟩ [] m__law_loose)) (C__law_rows : Can P w K mg base 1 "_law_rows" ["size", "places"] (spD ⟨K, mg⟩ [] m__law_rows)) : Can P w K mg base 9 "_law_name_right" ["matrix", "size", "tables", "name"] (spD ⟨K, mg⟩ [] m__law_name_right) := Can.of (k := 8) S sc__law_name_right fun f cdv A outer s H E fx hr =>
  sss_cons (ss_setLc (i := 4) (own := [("table", 11)]) rfl sc__law_name_right.nd rfl rfl (sw_true rfl rfl rfl (by decide +kernel)) (si_seq (se_v 2)) (blkOk_by (N := ["matrix", "size", "tables", "name", "found", "way", "places", "entries", "due", "rows", "k", "table", "entry"]) (sc := defScope s__law_name_right) (by decide +kernel)) (SGb.of (fun fx s H C cl fp => sg_v 11 sc__law_name_right.nd)) (STb.one (fun fx s H C cl fp => st_cmp (os_eq (u64 hr)) (se_ix (se_v 11) (se_int)) (se_v 3) (nomark _))) (SEb.of (fun fx s H C cl fp => se_v 11)) (by decide)) (sss_cons (ss_if (st_cmp (os_ne (u64 hr)) (se_cmp (os_inO rfl C_Matrix___iter__ hr) (se_v 3) (se_v 0) (by with_unfolding_all rfl)) (se_cmp (os_eq (u64 hr)) (se_callB cs_len rfl B.b_len rfl (sa_cons (se_v 4) (sa_nil))) (se_int) (nomark _)) (nomark _)) (sss_one (ss_ret (se_bl))) (sss_nil)) (sss_cons (ss_if (st_cmp (os_eq (u64 hr)) (se_callB cs_len rfl B.b_len rfl (sa_cons (se_v 4) (sa_nil))) (se_int) (nomark _)) (sss_cons (ss_for (passes_of rfl) rfl (si_range1 rfl B.b_range (sa_cons (se_int) (sa_nil))) (sg_v 5 sc__law_name_right.nd) (sss_one (ss_if (st_not (st_truth (se_own C__law_exact (L2N.takes_of rfl rfl rfl rfl) hr (sa_cons (se_own C__law_asked (L2N.takes_of rfl rfl rfl rfl) hr (sa_cons (se_v 5) (sa_cons (se_v 0) (sa_cons (se_v 0) (sa_cons (se_v 3) (sa_cons (se_tup (sa_cons (se_int) (sa_cons (se_int) (sa_nil)))) (sa_nil))))))) (sa_cons (se_tup (sa_cons (se_str) (sa_cons (se_v 3) (sa_nil)))) (sa_nil)))))) (sss_one (ss_ret (se_bl))) (sss_nil)))) (sss_one (ss_ret (se_bl)))) (sss_nil)) (sss_cons (ss_asg (se_ix (se_ix (se_v 4) (se_int)) (se_int)) (sg_v 6 sc__law_name_right.nd)) (sss_cons (ss_asg (se_ix (se_ix (se_v 4) (se_int)) (se_int)) (sg_v 7 sc__law_name_right.nd)) (sss_cons (ss_asg (se_own C__law_loose (L2N.takes_of rfl rfl rfl rfl) hr (sa_cons (se_v 4) (sa_nil))) (sg_v 8 sc__law_name_right.nd)) (sss_cons (ss_if (st_cmp (os_eq (u64 hr)) (se_ix (se_v 8) (se_int)) (se_str) (nomark _)) (sss_one (ss_asg (se_tup (sa_cons (se_str) (sa_cons (se_callTy cs_tuple rfl B.b_tuple rfl (sa_cons (se_lc (own := [("entry", 12)]) rfl sc__law_name_right.nd (si_seq (se_v 7)) (blkOk_by (N := ["matrix", "size", "tables", "name", "found", "way", "places", "entries", "due", "rows", "k", "table", "entry"]) (sc := defScope s__law_name_right) (by decide +kernel)) (SGb.of (fun fx s H C cl fp => sg_v 12 sc__law_name_right.nd)) (STb.nil) (SEb.of (fun fx s H C cl fp => se_ix (se_v 12) (se_int))) (by decide)) (sa_nil))) (sa_nil)))) (sg_v 8 sc__law_name_right.nd))) (sss_nil)) (sss_cons (ss_asg (se_own C__law_rows (L2N.takes_of rfl rfl rfl rfl) hr (sa_cons (se_v 1) (sa_cons (se_v 6) (sa_nil)))) (sg_v 9 sc__law_name_right.nd)) (sss_cons (ss_for (passes_of rfl) rfl (si_range1 rfl B.b_range (sa_cons (se_callB cs_len rfl B.b_len rfl (sa_cons (se_v 9) (sa_nil))) (sa_nil))) (sg_v 10 sc__law_name_right.nd) (sss_one (ss_if (st_not (st_truth (se_own C__law_exact (L2N.takes_of rfl rfl rfl rfl) hr (sa_cons (se_own C__law_asked (L2N.takes_of rfl rfl rfl rfl) hr (sa_cons (se_int) (sa_cons (se_v 0) (sa_cons (se_v 0) (sa_cons (se_v 3) (sa_cons (se_ix (se_v 9) (se_v 10)) (sa_nil))))))) (sa_cons (se_tup (sa_cons (se_str) (sa_cons (se_ix (se_v 7) (se_v 10)) (sa_nil)))) (sa_nil)))))) (sss_one (ss_ret (se_bl))) (sss_nil)))) (sss_cons (ss_if (st_not (st_truth (se_own C__law_exact (L2N.takes_of rfl rfl rfl rfl) hr (sa_cons (se_own C__law_asked (L2N.takes_of rfl rfl rfl rfl) hr (sa_cons (se_int) (sa_cons (se_v 0) (sa_cons (se_v 0) (sa_cons (se_v 3) (sa_cons (se_tup (sa_nil)) (sa_nil))))))) (sa_cons (se_tup (sa_cons (se_str) (sa_cons (se_v 6) (sa_nil)))) (sa_nil)))))) (sss_one (ss_ret (se_bl))) (sss_nil)) (sss_cons (ss_if (st_not (st_truth (se_own C__law_exact (L2N.takes_of rfl rfl rfl rfl) hr (sa_cons (se_own C__law_asked (L2N.takes_of rfl rfl rfl rfl) hr (sa_cons (se_int) (sa_cons (se_v 0) (sa_cons (se_v 0) (sa_cons (se_v 3) (sa_cons (se_tup (sa_nil)) (sa_nil))))))) (sa_cons (se_v 8) (sa_nil)))))) (sss_one (ss_ret (se_bl))) (sss_nil)) (sss_one (ss_ret (se_own C__law_exact (L2N.takes_of rfl rfl rfl rfl) hr (sa_cons (se_own C__law_asked (L2N.takes_of rfl rfl rfl rfl) hr (sa_cons (se_int) (sa_cons (se_v 0) (sa_cons (se_v 0) (sa_cons (se_v 3) (sa_cons (se_tup (sa_nil)) (sa_nil))))))) (sa_cons (se_tup (sa_cons (se_str) (sa_cons (se_v 7) (sa_nil)))) (sa_nil))))))))))))))))
abbrev s__law_matrix_right : Stmt := top 56
theorem sc__law_matrix_right : FnScope ["matrix", "size", "tables", "asked", "name", "table"] ["matrix", "size", "tables", "asked"] (defScope s__law_matrix_right) := ⟨rfl, rfl, rfl, by decide +kernel, rfl, by decide +kernel, by decide +kernel⟩
theorem ok__law_matrix_right (B : Bi P K mg) (S : Src K mg "_law_matrix_right" s__law_matrix_right ["matrix", "size", "tables", "asked"]) (C_Matrix___iter__ : OwnIt P w K mg base 1 "Matrix" "names") (C__law_exact : Can P w K mg base 8 "_law_exact" ["actual", "expected"] (spD ⟨K, mg⟩ [] m__law_exact)) (C__law_loose : Can P w K mg base 1 "_law_loose" ["tables"] (spD ⟨K, mg⟩ [] m__law_loose)) (C__law_asked : Can P w K mg base 3 "_law_asked" ["way", "matrix", "other", "name", "row"] (spD ⟨K, mg⟩ [] m__law_asked)) (C__law_name_right : Can P w K mg base 9 "_law_name_right" ["matrix", "size", "tables", "name"] (spD ⟨K, mg⟩ [] m__law_name_right)) : Can P w K mg base 10 "_law_matrix_right" ["matrix", "size", "tables", "asked"] (spD ⟨K, mg⟩ [] m__law_matrix_right) := Can.of (k := 9) S sc__law_matrix_right fun f cdv A outer s H E fx hr =>
  sss_cons (ss_if (st_not (st_truth (se_own C__law_exact (L2N.takes_of rfl rfl rfl rfl) hr (sa_cons (se_callTy cs_tuple rfl B.b_tuple rfl (sa_cons (se_lc (own := [("name", 4)]) rfl sc__law_matrix_right.nd (si_own C_Matrix___iter__ hr (se_v 0)) (blkOk_by (N := ["matrix", "size", "tables", "asked", "name", "table"]) (sc := defScope s__law_matrix_right) (by decide +kernel)) (SGb.of (fun fx s H C cl fp => sg_v 4 sc__law_matrix_right.nd)) (STb.nil) (SEb.of (fun fx s H C cl fp => se_v 4)) (by decide)) (sa_nil))) (sa_cons (se_callTy cs_tuple rfl B.b_tuple rfl (sa_cons (se_lc (own := [("table", 5)]) rfl sc__law_matrix_right.nd (si_seq (se_v 2)) (blkOk_by (N := ["matrix", "size", "tables", "asked", "name", "table"]) (sc := defScope s__law_matrix_right) (by decide +kernel)) (SGb.of (fun fx s H C cl fp => sg_v 5 sc__law_matrix_right.nd)) (STb.nil) (SEb.of (fun fx s H C cl fp => se_ix (se_v 5) (se_int))) (by decide)) (sa_nil))) (sa_nil)))))) (sss_one (ss_ret (se_bl))) (sss_nil)) (sss_cons (ss_if (st_not (st_truth (se_own C__law_exact (L2N.takes_of rfl rfl rfl rfl) hr (sa_cons (se_own C__law_asked (L2N.takes_of rfl rfl rfl rfl) hr (sa_cons (se_int) (sa_cons (se_v 0) (sa_cons (se_v 0) (sa_cons (se_str) (sa_cons (se_tup (sa_nil)) (sa_nil))))))) (sa_cons (se_own C__law_loose (L2N.takes_of rfl rfl rfl rfl) hr (sa_cons (se_v 2) (sa_nil))) (sa_nil)))))) (sss_one (ss_ret (se_bl))) (sss_nil)) (sss_cons (ss_for (passes_of rfl) rfl (si_seq (se_v 3)) (sg_v 4 sc__law_matrix_right.nd) (sss_one (ss_if (st_not (st_truth (se_own C__law_name_right (L2N.takes_of rfl rfl rfl rfl) hr (sa_cons (se_v 0) (sa_cons (se_v 1) (sa_cons (se_v 2) (sa_cons (se_v 4) (sa_nil)))))))) (sss_one (ss_ret (se_bl))) (sss_nil)))) (sss_one (ss_ret (se_bl)))))
abbrev s__law_cell : Stmt := top 33
theorem sc__law_cell : FnScope ["script", "k"] ["script", "k"] (defScope s__law_cell) := ⟨rfl, rfl, rfl, by decide +kernel, rfl, by decide +kernel, by decide +kernel⟩
theorem ok__law_cell (B : Bi P K mg) (S : Src K mg "_law_cell" s__law_cell ["script", "k"])  : Can P w K mg base 1 "_law_cell" ["script", "k"] (spD ⟨K, mg⟩ [] m__law_cell) := Can.of (k := 0) S sc__law_cell fun f cdv A outer s H E fx hr =>
  sss_cons (ss_if (st_cmp os_lt (se_v 1) (se_callB cs_len rfl B.b_len rfl (sa_cons (se_v 0) (sa_nil))) (nomark _)) (sss_one (ss_ret (se_callTy cs_int rfl B.b_int rfl (sa_cons (se_ix (se_v 0) (se_v 1)) (sa_nil))))) (sss_nil)) (sss_one (ss_ret (se_int)))
abbrev s__law_sign : Stmt := top 38
theorem sc__law_sign : FnScope ["stream", "size", "least", "sign", "value"] ["stream", "size", "least"] (defScope s__law_sign) := ⟨rfl, rfl, rfl, by decide +kernel, rfl, by decide +kernel, by decide +kernel⟩
theorem ok__law_sign (B : Bi P K mg) (S : Src K mg "_law_sign" s__law_sign ["stream", "size", "least"]) (C__law_next : Can P w K mg base 1 "_law_next" ["stream", "limit"] (spD ⟨K, mg⟩ [0] m__law_next)) : Can P w K mg base 2 "_law_sign" ["stream", "size", "least"] (spD ⟨K, mg⟩ [0] m__law_sign) := Can.of (k := 1) S sc__law_sign fun f cdv A outer s H E fx hr =>
  sss_cons (ss_asg (se_tup (sa_nil)) (sg_v 3 sc__law_sign.nd)) (sss_cons (ss_for (passes_of rfl) rfl (si_range1 rfl B.b_range (sa_cons (se_v 1) (sa_nil))) (sg_v 4 sc__law_sign.nd) (sss_one (ss_if (st_cmp (os_eq (u64 hr)) (se_own C__law_next (L2N.takes_of rfl rfl rfl rfl) hr (sa_cons (se_v 0) (sa_cons (se_int) (sa_nil)))) (se_int) (nomark _)) (sss_one (ss_asg (se_op os_add (se_v 3) (se_tup (sa_cons (se_v 4) (sa_nil)))) (sg_v 3 sc__law_sign.nd))) (sss_nil)))) (sss_cons (ss_if (st_cmp os_lt (se_callB cs_len rfl B.b_len rfl (sa_cons (se_v 3) (sa_nil))) (se_v 2) (nomark _)) (sss_one (ss_asg (se_tup (sa_cons (se_own C__law_next (L2N.takes_of rfl rfl rfl rfl) hr (sa_cons (se_v 0) (sa_cons (se_v 1) (sa_nil)))) (sa_nil))) (sg_v 3 sc__law_sign.nd))) (sss_nil)) (sss_one (ss_ret (se_v 3)))))
abbrev s__law_designated : Stmt := top 43
theorem sc__law_designated : FnScope ["stream", "size", "sign"] ["stream", "size"] (defScope s__law_designated) := ⟨rfl, rfl, rfl, by decide +kernel, rfl, by decide +kernel, by decide +kernel⟩
theorem ok__law_designated (B : Bi P K mg) (S : Src K mg "_law_designated" s__law_designated ["stream", "size"]) (C__law_sign : Can P w K mg base 2 "_law_sign" ["stream", "size", "least"] (spD ⟨K, mg⟩ [0] m__law_sign)) : Can P w K mg base 3 "_law_designated" ["stream", "size"] (spD ⟨K, mg⟩ [0] m__law_designated) := Can.of (k := 2) S sc__law_designated fun f cdv A outer s H E fx hr =>
  sss_cons (ss_asg (se_own C__law_sign (L2N.takes_of rfl rfl rfl rfl) hr (sa_cons (se_v 0) (sa_cons (se_v 1) (sa_cons (se_int) (sa_nil))))) (sg_v 2 sc__law_designated.nd)) (sss_cons (ss_if (st_cmp (os_eq (u64 hr)) (se_callB cs_len rfl B.b_len rfl (sa_cons (se_v 2) (sa_nil))) (se_v 1) (nomark _)) (sss_one (ss_ret (se_tup (sa_cons (se_op os_sub (se_v 1) (se_int)) (sa_nil))))) (sss_nil)) (sss_one (ss_ret (se_v 2))))
abbrev s__law_left_out : Stmt := top 44
theorem sc__law_left_out : FnScope ["stream", "pairs", "at"] ["stream", "pairs"] (defScope s__law_left_out) := ⟨rfl, rfl, rfl, by decide +kernel, rfl, by decide +kernel, by decide +kernel⟩
theorem ok__law_left_out (B : Bi P K mg) (S : Src K mg "_law_left_out" s__law_left_out ["stream", "pairs"]) (C__law_next : Can P w K mg base 1 "_law_next" ["stream", "limit"] (spD ⟨K, mg⟩ [0] m__law_next)) : Can P w K mg base 2 "_law_left_out" ["stream", "pairs"] (spD ⟨K, mg⟩ [0] m__law_left_out) := Can.of (k := 1) S sc__law_left_out fun f cdv A outer s H E fx hr =>
  sss_cons (ss_asg (se_own C__law_next (L2N.takes_of rfl rfl rfl rfl) hr (sa_cons (se_v 0) (sa_cons (se_callB cs_len rfl B.b_len rfl (sa_cons (se_v 1) (sa_nil))) (sa_nil)))) (sg_v 2 sc__law_left_out.nd)) (sss_one (ss_ret (se_op os_add (se_slice (se_v 1) (so_none) (so_some (se_v 2))) (se_slice (se_v 1) (so_some (se_op os_add (se_v 2) (se_int))) (so_none)))))
abbrev s__law_other_places : Stmt := top 45
theorem sc__law_other_places : FnScope ["stream", "wide", "pairs", "at", "places"] ["stream", "wide", "pairs"] (defScope s__law_other_places) := ⟨rfl, rfl, rfl, by decide +kernel, rfl, by decide +kernel, by decide +kernel⟩
theorem ok__law_other_places (B : Bi P K mg) (S : Src K mg "_law_other_places" s__law_other_places ["stream", "wide", "pairs"]) (C__law_next : Can P w K mg base 1 "_law_next" ["stream", "limit"] (spD ⟨K, mg⟩ [0] m__law_next)) : Can P w K mg base 2 "_law_other_places" ["stream", "wide", "pairs"] (spD ⟨K, mg⟩ [0] m__law_other_places) := Can.of (k := 1) S sc__law_other_places fun f cdv A outer s H E fx hr =>
  sss_cons (ss_asg (se_own C__law_next (L2N.takes_of rfl rfl rfl rfl) hr (sa_cons (se_v 0) (sa_cons (se_callB cs_len rfl B.b_len rfl (sa_cons (se_v 2) (sa_nil))) (sa_nil)))) (sg_v 3 sc__law_other_places.nd)) (sss_cons (ss_asg (se_op os_mod (se_callTy cs_int rfl B.b_int rfl (sa_cons (se_op os_add (se_op os_add (se_ix (se_ix (se_v 2) (se_v 3)) (se_int)) (se_int)) (se_own C__law_next (L2N.takes_of rfl rfl rfl rfl) hr (sa_cons (se_v 0) (sa_cons (se_int) (sa_nil))))) (sa_nil))) (se_int)) (sg_v 4 sc__law_other_places.nd)) (sss_cons (ss_if (st_cmp (os_eq (u64 hr)) (se_v 1) (se_int) (nomark _)) (sss_one (ss_asg (se_op os_mod (se_callTy cs_int rfl B.b_int rfl (sa_cons (se_op os_add (se_op os_add (se_ix (se_ix (se_v 2) (se_v 3)) (se_int)) (se_int)) (se_own C__law_next (L2N.takes_of rfl rfl rfl rfl) hr (sa_cons (se_v 0) (sa_cons (se_int) (sa_nil))))) (sa_nil))) (se_int)) (sg_v 4 sc__law_other_places.nd))) (sss_nil)) (sss_one (ss_ret (se_op os_add (se_op os_add (se_slice (se_v 2) (so_none) (so_some (se_v 3))) (se_lst (sa_cons (se_tup (sa_cons (se_ix (se_ix (se_v 2) (se_v 3)) (se_int)) (sa_cons (se_v 4) (sa_nil)))) (sa_nil)))) (se_slice (se_v 2) (so_some (se_op os_add (se_v 3) (se_int))) (so_none)))))))
abbrev s__law_one_more : Stmt := top 46
theorem sc__law_one_more : FnScope ["stream", "pairs", "name", "at", "pair"] ["stream", "pairs", "name"] (defScope s__law_one_more) := ⟨rfl, rfl, rfl, by decide +kernel, rfl, by decide +kernel, by decide +kernel⟩
theorem ok__law_one_more (B : Bi P K mg) (S : Src K mg "_law_one_more" s__law_one_more ["stream", "pairs", "name"]) (C__law_next : Can P w K mg base 1 "_law_next" ["stream", "limit"] (spD ⟨K, mg⟩ [0] m__law_next)) : Can P w K mg base 2 "_law_one_more" ["stream", "pairs", "name"] (spD ⟨K, mg⟩ [0] m__law_one_more) := Can.of (k := 1) S sc__law_one_more fun f cdv A outer s H E fx hr =>
  sss_cons (ss_asg (se_own C__law_next (L2N.takes_of rfl rfl rfl rfl) hr (sa_cons (se_v 0) (sa_cons (se_op os_add (se_callB cs_len rfl B.b_len rfl (sa_cons (se_v 1) (sa_nil))) (se_int)) (sa_nil)))) (sg_v 3 sc__law_one_more.nd)) (sss_cons (ss_if (SW.st (sw_or (st_cmp (os_eq (u64 hr)) (se_callB cs_len rfl B.b_len rfl (sa_cons (se_v 1) (sa_nil))) (se_int) (nomark _)) (sw_or1 (st_cmp (os_in (u65 hr)) (se_v 2) (se_lc (own := [("pair", 4)]) rfl sc__law_one_more.nd (si_seq (se_v 1)) (blkOk_by (N := ["stream", "pairs", "name", "at", "pair"]) (sc := defScope s__law_one_more) (by decide +kernel)) (SGb.of (fun fx s H C cl fp => sg_v 4 sc__law_one_more.nd)) (STb.nil) (SEb.of (fun fx s H C cl fp => se_ix (se_v 4) (se_int))) (by decide)) (by with_unfolding_all rfl))))) (sss_one (ss_ret (se_v 1))) (sss_nil)) (sss_one (ss_ret (se_op os_add (se_op os_add (se_slice (se_v 1) (so_none) (so_some (se_v 3))) (se_lst (sa_cons (se_tup (sa_cons (se_v 2) (sa_cons (se_own C__law_next (L2N.takes_of rfl rfl rfl rfl) hr (sa_cons (se_v 0) (sa_cons (se_int) (sa_nil)))) (sa_nil)))) (sa_nil)))) (se_slice (se_v 1) (so_some (se_v 3)) (so_none))))))
abbrev s__law_near_name : Stmt := top 47
theorem sc__law_near_name : FnScope ["stream", "name", "letter", "near"] ["stream", "name"] (defScope s__law_near_name) := ⟨rfl, rfl, rfl, by decide +kernel, rfl, by decide +kernel, by decide +kernel⟩
theorem ok__law_near_name (B : Bi P K mg) (S : Src K mg "_law_near_name" s__law_near_name ["stream", "name"]) (C__law_next : Can P w K mg base 1 "_law_next" ["stream", "limit"] (spD ⟨K, mg⟩ [0] m__law_next)) : Can P w K mg base 2 "_law_near_name" ["stream", "name"] (spD ⟨K, mg⟩ [0] m__law_near_name) := Can.of (k := 1) S sc__law_near_name fun f cdv A outer s H E fx hr =>
  sss_cons (ss_asg (se_ix (se_str) (se_own C__law_next (L2N.takes_of rfl rfl rfl rfl) hr (sa_cons (se_v 0) (sa_cons (se_int) (sa_nil))))) (sg_v 2 sc__law_near_name.nd)) (sss_cons (ss_asg (se_lst (sa_cons (se_op os_add (se_slice (se_v 1) (so_none) (so_some (se_un os_neg (se_int)))) (se_v 2)) (sa_cons (se_op os_add (se_v 2) (se_slice (se_v 1) (so_some (se_int)) (so_none))) (sa_cons (se_slice (se_op os_add (se_v 1) (se_v 2)) (so_none) (so_some (se_int))) (sa_cons (se_op os_add (se_v 2) (se_slice (se_v 1) (so_none) (so_some (se_int)))) (sa_nil)))))) (sg_v 3 sc__law_near_name.nd)) (sss_one (ss_ret (se_ix (se_v 3) (se_own C__law_next (L2N.takes_of rfl rfl rfl rfl) hr (sa_cons (se_v 0) (sa_cons (se_int) (sa_nil))))))))
abbrev s__law_renamed : Stmt := top 48
theorem sc__law_renamed : FnScope ["stream", "pairs", "at", "name", "pair"] ["stream", "pairs"] (defScope s__law_renamed) := ⟨rfl, rfl, rfl, by decide +kernel, rfl, by decide +kernel, by decide +kernel⟩
theorem ok__law_renamed (B : Bi P K mg) (S : Src K mg "_law_renamed" s__law_renamed ["stream", "pairs"]) (C__law_next : Can P w K mg base 1 "_law_next" ["stream", "limit"] (spD ⟨K, mg⟩ [0] m__law_next)) (C__law_near_name : Can P w K mg base 2 "_law_near_name" ["stream", "name"] (spD ⟨K, mg⟩ [0] m__law_near_name)) : Can P w K mg base 3 "_law_renamed" ["stream", "pairs"] (spD ⟨K, mg⟩ [0] m__law_renamed) := Can.of (k := 2) S sc__law_renamed fun f cdv A outer s H E fx hr =>
  sss_cons (ss_asg (se_own C__law_next (L2N.takes_of rfl rfl rfl rfl) hr (sa_cons (se_v 0) (sa_cons (se_callB cs_len rfl B.b_len rfl (sa_cons (se_v 1) (sa_nil))) (sa_nil)))) (sg_v 2 sc__law_renamed.nd)) (sss_cons (ss_asg (se_own C__law_near_name (L2N.takes_of rfl rfl rfl rfl) hr (sa_cons (se_v 0) (sa_cons (se_ix (se_ix (se_v 1) (se_v 2)) (se_int)) (sa_nil)))) (sg_v 3 sc__law_renamed.nd)) (sss_cons (ss_if (st_cmp (os_in (u65 hr)) (se_v 3) (se_lc (own := [("pair", 4)]) rfl sc__law_renamed.nd (si_seq (se_v 1)) (blkOk_by (N := ["stream", "pairs", "at", "name", "pair"]) (sc := defScope s__law_renamed) (by decide +kernel)) (SGb.of (fun fx s H C cl fp => sg_v 4 sc__law_renamed.nd)) (STb.nil) (SEb.of (fun fx s H C cl fp => se_ix (se_v 4) (se_int))) (by decide)) (by with_unfolding_all rfl)) (sss_one (ss_ret (se_v 1))) (sss_nil)) (sss_one (ss_ret (se_op os_add (se_op os_add (se_slice (se_v 1) (so_none) (so_some (se_v 2))) (se_lst (sa_cons (se_tup (sa_cons (se_v 3) (sa_cons (se_ix (se_ix (se_v 1) (se_v 2)) (se_int)) (sa_nil)))) (sa_nil)))) (se_slice (se_v 1) (so_some (se_op os_add (se_v 2) (se_int))) (so_none)))))))
abbrev s__law_changed : Stmt := top 49
theorem sc__law_changed : FnScope ["stream", "size", "pairs", "way"] ["stream", "size", "pairs", "way"] (defScope s__law_changed) := ⟨rfl, rfl, rfl, by decide +kernel, rfl, by decide +kernel, by decide +kernel⟩
theorem ok__law_changed (B : Bi P K mg) (S : Src K mg "_law_changed" s__law_changed ["stream", "size", "pairs", "way"]) (C__law_left_out : Can P w K mg base 2 "_law_left_out" ["stream", "pairs"] (spD ⟨K, mg⟩ [0] m__law_left_out)) (C__law_other_places : Can P w K mg base 2 "_law_other_places" ["stream", "wide", "pairs"] (spD ⟨K, mg⟩ [0] m__law_other_places)) (C__law_name : Can P w K mg base 2 "_law_name" ["stream"] (spD ⟨K, mg⟩ [0] m__law_name)) (C__law_one_more : Can P w K mg base 2 "_law_one_more" ["stream", "pairs", "name"] (spD ⟨K, mg⟩ [0] m__law_one_more)) (C__law_renamed : Can P w K mg base 3 "_law_renamed" ["stream", "pairs"] (spD ⟨K, mg⟩ [0] m__law_renamed)) (C__law_next : Can P w K mg base 1 "_law_next" ["stream", "limit"] (spD ⟨K, mg⟩ [0] m__law_next)) (C__law_near_name : Can P w K mg base 2 "_law_near_name" ["stream", "name"] (spD ⟨K, mg⟩ [0] m__law_near_name)) : Can P w K mg base 4 "_law_changed" ["stream", "size", "pairs", "way"] (spD ⟨K, mg⟩ [0] m__law_changed) := Can.of (k := 3) S sc__law_changed fun f cdv A outer s H E fx hr =>
  sss_cons (ss_if (SW.st (sw_and (st_cmp (os_eq (u64 hr)) (se_v 3) (se_int) (nomark _)) (sw_and1 (st_cmp os_gt (se_callB cs_len rfl B.b_len rfl (sa_cons (se_v 2) (sa_nil))) (se_int) (nomark _))))) (sss_one (ss_ret (se_own C__law_left_out (L2N.takes_of rfl rfl rfl rfl) hr (sa_cons (se_v 0) (sa_cons (se_v 2) (sa_nil)))))) (sss_nil)) (sss_cons (ss_if (SW.st (sw_and (st_cmp (os_eq (u64 hr)) (se_v 3) (se_int) (nomark _)) (sw_and1 (st_cmp os_gt (se_callB cs_len rfl B.b_len rfl (sa_cons (se_v 2) (sa_nil))) (se_int) (nomark _))))) (sss_one (ss_ret (se_own C__law_other_places (L2N.takes_of rfl rfl rfl rfl) hr (sa_cons (se_v 0) (sa_cons (se_v 1) (sa_cons (se_v 2) (sa_nil))))))) (sss_nil)) (sss_cons (ss_if (st_cmp (os_eq (u64 hr)) (se_v 3) (se_int) (nomark _)) (sss_one (ss_ret (se_own C__law_one_more (L2N.takes_of rfl rfl rfl rfl) hr (sa_cons (se_v 0) (sa_cons (se_v 2) (sa_cons (se_own C__law_name (L2N.takes_of rfl rfl rfl rfl) hr (sa_cons (se_v 0) (sa_nil))) (sa_nil))))))) (sss_nil)) (sss_cons (ss_if (SW.st (sw_and (st_cmp (os_eq (u64 hr)) (se_v 3) (se_int) (nomark _)) (sw_and1 (st_cmp os_gt (se_callB cs_len rfl B.b_len rfl (sa_cons (se_v 2) (sa_nil))) (se_int) (nomark _))))) (sss_one (ss_ret (se_own C__law_renamed (L2N.takes_of rfl rfl rfl rfl) hr (sa_cons (se_v 0) (sa_cons (se_v 2) (sa_nil)))))) (sss_nil)) (sss_cons (ss_if (SW.st (sw_and (st_cmp (os_eq (u64 hr)) (se_v 3) (se_int) (nomark _)) (sw_and1 (st_cmp os_gt (se_callB cs_len rfl B.b_len rfl (sa_cons (se_v 2) (sa_nil))) (se_int) (nomark _))))) (sss_one (ss_ret (se_own C__law_one_more (L2N.takes_of rfl rfl rfl rfl) hr (sa_cons (se_v 0) (sa_cons (se_v 2) (sa_cons (se_own C__law_near_name (L2N.takes_of rfl rfl rfl rfl) hr (sa_cons (se_v 0) (sa_cons (se_ix (se_ix (se_v 2) (se_own C__law_next (L2N.takes_of rfl rfl rfl rfl) hr (sa_cons (se_v 0) (sa_cons (se_callB cs_len rfl B.b_len rfl (sa_cons (se_v 2) (sa_nil))) (sa_nil))))) (se_int)) (sa_nil)))) (sa_nil))))))) (sss_nil)) (sss_cons (ss_if (st_cmp (os_eq (u64 hr)) (se_v 3) (se_int) (nomark _)) (sss_one (ss_ret (se_lst (sa_nil)))) (sss_nil)) (sss_one (ss_ret (se_v 2))))))))
abbrev s__law_other : Stmt := top 50
theorem sc__law_other : FnScope ["stream", "size", "tables", "way", "pairs", "wide", "k", "at", "made", "name", "places", "entries", "table", "pair"] ["stream", "size", "tables", "way"] (defScope s__law_other) := ⟨rfl, rfl, rfl, by decide +kernel, rfl, by decide +kernel, by decide +kernel⟩
theorem ok__law_other (B : Bi P K mg) (S : Src K mg "_law_other" s__law_other ["stream", "size", "tables", "way"]) (C__law_next : Can P w K mg base 1 "_law_next" ["stream", "limit"] (spD ⟨K, mg⟩ [0] m__law_next)) (C__law_changed : Can P w K mg base 4 "_law_changed" ["stream", "size", "pairs", "way"] (spD ⟨K, mg⟩ [0] m__law_changed)) (C__law_count : Can P w K mg base 1 "_law_count" ["size", "places"] (spD ⟨K, mg⟩ [] m__law_count)) : Can P w K mg base 5 "_law_other" ["stream", "size", "tables", "way"] (spD ⟨K, mg⟩ [0] m__law_other) := Can.of (k := 4) S sc__law_other fun f cdv A outer s H E fx hr =>
  sss_cons (ss_setLc (i := 4) (own := [("table", 12)]) rfl sc__law_other.nd rfl rfl (sw_true rfl rfl rfl (by decide +kernel)) (si_seq (se_v 2)) (blkOk_by (N := ["stream", "size", "tables", "way", "pairs", "wide", "k", "at", "made", "name", "places", "entries", "table", "pair"]) (sc := defScope s__law_other) (by decide +kernel)) (SGb.of (fun fx s H C cl fp => sg_v 12 sc__law_other.nd)) (STb.nil) (SEb.of (fun fx s H C cl fp => se_tup (sa_cons (se_ix (se_v 12) (se_int)) (sa_cons (se_ix (se_v 12) (se_int)) (sa_nil))))) (by decide)) (sss_cons (ss_asg (se_v 1) (sg_v 5 sc__law_other.nd)) (sss_cons (ss_if (SW.st (sw_and (st_cmp (os_eq (u64 hr)) (se_v 3) (se_int) (nomark _)) (sw_and1 (st_cmp (os_eq (u64 hr)) (se_callB cs_len rfl B.b_len rfl (sa_cons (se_lc (own := [("pair", 13)]) rfl sc__law_other.nd (si_seq (se_v 4)) (blkOk_by (N := ["stream", "size", "tables", "way", "pairs", "wide", "k", "at", "made", "name", "places", "entries", "table", "pair"]) (sc := defScope s__law_other) (by decide +kernel)) (SGb.of (fun fx s H C cl fp => sg_v 13 sc__law_other.nd)) (STb.one (fun fx s H C cl fp => st_cmp (os_eq (u64 hr)) (se_ix (se_v 13) (se_int)) (se_int) (nomark _))) (SEb.of (fun fx s H C cl fp => se_v 13)) (by decide)) (sa_nil))) (se_int) (nomark _))))) (sss_one (ss_asg (se_op os_add (se_int) (se_own C__law_next (L2N.takes_of rfl rfl rfl rfl) hr (sa_cons (se_v 0) (sa_cons (se_int) (sa_nil))))) (sg_v 5 sc__law_other.nd))) (sss_nil)) (sss_cons (ss_asg (se_own C__law_changed (L2N.takes_of rfl rfl rfl rfl) hr (sa_cons (se_v 0) (sa_cons (se_v 5) (sa_cons (se_frz (se_v 4)) (sa_cons (se_v 3) (sa_nil)))))) (sg_v 4 sc__law_other.nd)) (sss_cons (ss_if (st_cmp (os_eq (u64 hr)) (se_v 3) (se_int) (nomark _)) (sss_one (ss_for (passes_of rfl) rfl (si_range1 rfl B.b_range (sa_cons (se_int) (sa_nil))) (sg_v 6 sc__law_other.nd) (sss_one (ss_asg (se_own C__law_changed (L2N.takes_of rfl rfl rfl rfl) hr (sa_cons (se_v 0) (sa_cons (se_v 5) (sa_cons (se_frz (se_v 4)) (sa_cons (se_op os_add (se_int) (se_own C__law_next (L2N.takes_of rfl rfl rfl rfl) hr (sa_cons (se_v 0) (sa_cons (se_int) (sa_nil))))) (sa_nil)))))) (sg_v 4 sc__law_other.nd))))) (sss_nil)) (sss_cons (ss_asg (se_own C__law_next (L2N.takes_of rfl rfl rfl rfl) hr (sa_cons (se_v 0) (sa_cons (se_op os_add (se_callB cs_len rfl B.b_len rfl (sa_cons (se_v 4) (sa_nil))) (se_int)) (sa_nil)))) (sg_v 7 sc__law_other.nd)) (sss_cons (ss_asg (se_op os_add (se_slice (se_v 4) (so_some (se_v 7)) (so_none)) (se_slice (se_v 4) (so_none) (so_some (se_v 7)))) (sg_v 4 sc__law_other.nd)) (sss_cons (ss_asg (se_lst (sa_nil)) (sg_v 8 sc__law_other.nd)) (sss_cons (ss_for (passes_of rfl) rfl (si_seq (se_v 4)) (sg_tup rfl (sgs_cons (sg_v 9 sc__law_other.nd) (sgs_cons (sg_v 10 sc__law_other.nd) (sgs_nil)))) (sss_cons (ss_asg (se_lst (sa_nil)) (sg_v 11 sc__law_other.nd)) (sss_cons (ss_for (passes_of rfl) rfl (si_range1 rfl B.b_range (sa_cons (se_own C__law_count (L2N.takes_of rfl rfl rfl rfl) hr (sa_cons (se_v 5) (sa_cons (se_v 10) (sa_nil)))) (sa_nil))) (sg_v 6 sc__law_other.nd) (sss_one (ss_expr (se_mut (i := 11) PySem.F.plainAttrs_list PySem.F.slot_list_append PySem.F.type_list_append ms_append rfl (by first | exact Or.inl rfl | exact Or.inr (Or.inl rfl) | exact Or.inr (Or.inr rfl)) (sa_cons (se_tup (sa_cons (se_own C__law_next (L2N.takes_of rfl rfl rfl rfl) hr (sa_cons (se_v 0) (sa_cons (se_v 5) (sa_nil)))) (sa_nil))) (sa_nil)))))) (sss_cons (ss_if (st_cmp (os_eq (u64 hr)) (se_own C__law_next (L2N.takes_of rfl rfl rfl rfl) hr (sa_cons (se_v 0) (sa_cons (se_int) (sa_nil)))) (se_int) (nomark _)) (sss_one (ss_setIx (i := 11) st_setL rfl (by first | exact Or.inl rfl | exact Or.inr (Or.inl rfl) | exact Or.inr (Or.inr rfl)) (se_own C__law_next (L2N.takes_of rfl rfl rfl rfl) hr (sa_cons (se_v 0) (sa_cons (se_callB cs_len rfl B.b_len rfl (sa_cons (se_v 11) (sa_nil))) (sa_nil)))) (se_tupRg rfl rfl B.b_tuple rfl B.b_range (se_v 5)))) (sss_nil)) (sss_one (ss_expr (se_mut (i := 8) PySem.F.plainAttrs_list PySem.F.slot_list_append PySem.F.type_list_append ms_append rfl (by first | exact Or.inl rfl | exact Or.inr (Or.inl rfl) | exact Or.inr (Or.inr rfl)) (sa_cons (se_tup (sa_cons (se_v 9) (sa_cons (se_v 10) (sa_cons (se_callTy cs_tuple rfl B.b_tuple rfl (sa_cons (se_v 11) (sa_nil))) (sa_nil))))) (sa_nil))))))))) (sss_one (ss_ret (se_tup (sa_cons (se_v 5) (sa_cons (se_v 8) (sa_nil))))))))))))))
abbrev s__law_unlike : Stmt := top 51
theorem sc__law_unlike : FnScope ["one", "other", "name", "mine", "table"] ["one", "other"] (defScope s__law_unlike) := ⟨rfl, rfl, rfl, by decide +kernel, rfl, by decide +kernel, by decide +kernel⟩
theorem ok__law_unlike (B : Bi P K mg) (S : Src K mg "_law_unlike" s__law_unlike ["one", "other"])  : Can P w K mg base 1 "_law_unlike" ["one", "other"] (spD ⟨K, mg⟩ [] m__law_unlike) := Can.of (k := 0) S sc__law_unlike fun f cdv A outer s H E fx hr =>
  sss_cons (ss_for (passes_of rfl) rfl (si_seq (se_callB (cs_sorted (u64 hr)) rfl B.b_sorted rfl (sa_cons (se_op os_add (se_lc (own := [("table", 4)]) rfl sc__law_unlike.nd (si_seq (se_v 0)) (blkOk_by (N := ["one", "other", "name", "mine", "table"]) (sc := defScope s__law_unlike) (by decide +kernel)) (SGb.of (fun fx s H C cl fp => sg_v 4 sc__law_unlike.nd)) (STb.nil) (SEb.of (fun fx s H C cl fp => se_ix (se_v 4) (se_int))) (by decide)) (se_lc (own := [("table", 4)]) rfl sc__law_unlike.nd (si_seq (se_v 1)) (blkOk_by (N := ["one", "other", "name", "mine", "table"]) (sc := defScope s__law_unlike) (by decide +kernel)) (SGb.of (fun fx s H C cl fp => sg_v 4 sc__law_unlike.nd)) (STb.nil) (SEb.of (fun fx s H C cl fp => se_ix (se_v 4) (se_int))) (by decide))) (sa_nil)))) (sg_v 2 sc__law_unlike.nd) (sss_cons (ss_setLc (i := 3) (own := [("table", 4)]) rfl sc__law_unlike.nd rfl rfl (sw_true rfl rfl rfl (by decide +kernel)) (si_seq (se_v 0)) (blkOk_by (N := ["one", "other", "name", "mine", "table"]) (sc := defScope s__law_unlike) (by decide +kernel)) (SGb.of (fun fx s H C cl fp => sg_v 4 sc__law_unlike.nd)) (STb.one (fun fx s H C cl fp => st_cmp (os_eq (u64 hr)) (se_ix (se_v 4) (se_int)) (se_v 2) (nomark _))) (SEb.of (fun fx s H C cl fp => se_ix (se_v 4) (se_int))) (by decide)) (sss_one (ss_if (st_cmp (os_ne (u64 hr)) (se_v 3) (se_lc (own := [("table", 4)]) rfl sc__law_unlike.nd (si_seq (se_v 1)) (blkOk_by (N := ["one", "other", "name", "mine", "table"]) (sc := defScope s__law_unlike) (by decide +kernel)) (SGb.of (fun fx s H C cl fp => sg_v 4 sc__law_unlike.nd)) (STb.one (fun fx s H C cl fp => st_cmp (os_eq (u64 hr)) (se_ix (se_v 4) (se_int)) (se_v 2) (nomark _))) (SEb.of (fun fx s H C cl fp => se_ix (se_v 4) (se_int))) (by decide)) (nomark _)) (sss_one (ss_ret (se_tup (sa_cons (se_str) (sa_cons (se_v 2) (sa_nil)))))) (sss_nil))))) (sss_one (ss_ret (se_tup (sa_cons (se_str) (sa_cons (se_non) (sa_nil))))))
abbrev s_is_letter : Stmt := top 31
theorem sc_is_letter : FnScope ["word"] ["word"] (defScope s_is_letter) := ⟨rfl, rfl, rfl, by decide +kernel, rfl, by decide +kernel, by decide +kernel⟩
theorem ok_is_letter (B : Bi P K mg) (S : Src K mg "is_letter" s_is_letter ["word"])  : Can P w K mg base 1 "is_letter" ["word"] (spD ⟨K, mg⟩ [] m_is_letter) := Can.of (k := 0) S sc_is_letter fun f cdv A outer s H E fx hr =>
  sss_one (ss_ret (se_and (se_cmp (os_eq (u64 hr)) (se_callB cs_len rfl B.b_len rfl (sa_cons (se_v 0) (sa_nil))) (se_int) (nomark _)) (se_one (se_chain os_le os_le (se_str) (se_v 0) (se_str)))))
abbrev s_law : Stmt := top 58
theorem sc_law : FnScope ["script", "stream", "size", "tables", "matrix", "changes", "way", "wide", "made", "other", "asked", "word", "letter", "table"] ["script"] (defScope s_law) := ⟨rfl, rfl, rfl, by decide +kernel, rfl, by decide +kernel, by decide +kernel⟩
theorem ok_law {fa : Addr} {fd : FuncData} (B : Bi P K mg) (F : Fun K "law" "law" s_law fa fd) (C__law_cell : Can P w K mg base 1 "_law_cell" ["script", "k"] (spD ⟨K, mg⟩ [] m__law_cell)) (C__law_stream : Can P w K mg base 1 "_law_stream" ["cell"] (spD ⟨K, mg⟩ [] m__law_stream)) (C__law_next : Can P w K mg base 1 "_law_next" ["stream", "limit"] (spD ⟨K, mg⟩ [0] m__law_next)) (C__law_tables : Can P w K mg base 3 "_law_tables" ["stream", "size", "plain"] (spD ⟨K, mg⟩ [0] m__law_tables)) (C__law_designated : Can P w K mg base 3 "_law_designated" ["stream", "size"] (spD ⟨K, mg⟩ [0] m__law_designated)) (C_Matrix___init__ : CanMk P w K mg base 5 "Matrix" m_Matrix___init__) (C__law_matrix_right : Can P w K mg base 10 "_law_matrix_right" ["matrix", "size", "tables", "asked"] (spD ⟨K, mg⟩ [] m__law_matrix_right)) (C__law_other : Can P w K mg base 5 "_law_other" ["stream", "size", "tables", "way"] (spD ⟨K, mg⟩ [0] m__law_other)) (C__law_unlike : Can P w K mg base 1 "_law_unlike" ["one", "other"] (spD ⟨K, mg⟩ [] m__law_unlike)) (C__law_asked : Can P w K mg base 3 "_law_asked" ["way", "matrix", "other", "name", "row"] (spD ⟨K, mg⟩ [] m__law_asked)) (C__law_exact : Can P w K mg base 8 "_law_exact" ["actual", "expected"] (spD ⟨K, mg⟩ [] m__law_exact)) (C__law_near_names : Can P w K mg base 1 "_law_near_names" ["names"] (spD ⟨K, mg⟩ [] m__law_near_names)) (C_is_letter : Can P w K mg base 1 "is_letter" ["word"] (spD ⟨K, mg⟩ [] m_is_letter)) : FnOk P w K mg base (L2N.CX P w) 11 fa fd ["script"] (spD ⟨K, mg⟩ [] m_law) := def_ok (k := 10) F sc_law fun cdv A outer s H E fx hr =>
  sss_cons (ss_asg (se_own C__law_stream (L2N.takes_of rfl rfl rfl rfl) hr (sa_cons (se_own C__law_cell (L2N.takes_of rfl rfl rfl rfl) hr (sa_cons (se_v 0) (sa_cons (se_int) (sa_nil)))) (sa_nil))) (sg_v 1 sc_law.nd)) (sss_cons (ss_asg (se_op os_add (se_int) (se_own C__law_next (L2N.takes_of rfl rfl rfl rfl) hr (sa_cons (se_v 1) (sa_cons (se_int) (sa_nil))))) (sg_v 2 sc_law.nd)) (sss_cons (ss_asg (se_own C__law_tables (L2N.takes_of rfl rfl rfl rfl) hr (sa_cons (se_v 1) (sa_cons (se_v 2) (sa_cons (se_cmp (os_eq (u64 hr)) (se_own C__law_next (L2N.takes_of rfl rfl rfl rfl) hr (sa_cons (se_v 1) (sa_cons (se_int) (sa_nil)))) (se_int) (nomark _)) (sa_nil))))) (sg_v 3 sc_law.nd)) (sss_cons (ss_asg (se_mk C_Matrix___init__ (L2N.takes_of rfl rfl rfl rfl) hr (sa_cons (se_v 2) (sa_cons (se_own C__law_designated (L2N.takes_of rfl rfl rfl rfl) hr (sa_cons (se_v 1) (sa_cons (se_v 2) (sa_nil)))) (sa_cons (se_callTy cs_tuple rfl B.b_tuple rfl (sa_cons (se_v 3) (sa_nil))) (sa_nil))))) (sg_v 4 sc_law.nd)) (sss_cons (ss_if (st_not (st_truth (se_own C__law_matrix_right (L2N.takes_of rfl rfl rfl rfl) hr (sa_cons (se_v 4) (sa_cons (se_v 2) (sa_cons (se_v 3) (sa_cons (se_lc (own := [("table", 13)]) rfl sc_law.nd (si_seq (se_v 3)) (blkOk_by (N := ["script", "stream", "size", "tables", "matrix", "changes", "way", "wide", "made", "other", "asked", "word", "letter", "table"]) (sc := defScope s_law) (by decide +kernel)) (SGb.of (fun fx s H C cl fp => sg_v 13 sc_law.nd)) (STb.nil) (SEb.of (fun fx s H C cl fp => se_ix (se_v 13) (se_int))) (by decide)) (sa_nil)))))))) (sss_one (ss_ret (se_bl))) (sss_nil)) (sss_cons (ss_asg (se_own C__law_stream (L2N.takes_of rfl rfl rfl rfl) hr (sa_cons (se_own C__law_cell (L2N.takes_of rfl rfl rfl rfl) hr (sa_cons (se_v 0) (sa_cons (se_int) (sa_nil)))) (sa_nil))) (sg_v 5 sc_law.nd)) (sss_cons (ss_for (passes_of rfl) rfl (si_range1 rfl B.b_range (sa_cons (se_int) (sa_nil))) (sg_v 6 sc_law.nd) (sss_cons (ss_asg (se_own C__law_other (L2N.takes_of rfl rfl rfl rfl) hr (sa_cons (se_v 5) (sa_cons (se_v 2) (sa_cons (se_v 3) (sa_cons (se_v 6) (sa_nil)))))) (sg_seq rfl (sgs_cons (sg_v 7 sc_law.nd) (sgs_cons (sg_v 8 sc_law.nd) (sgs_nil))))) (sss_cons (ss_asg (se_mk C_Matrix___init__ (L2N.takes_of rfl rfl rfl rfl) hr (sa_cons (se_v 7) (sa_cons (se_own C__law_designated (L2N.takes_of rfl rfl rfl rfl) hr (sa_cons (se_v 5) (sa_cons (se_v 7) (sa_nil)))) (sa_cons (se_callTy cs_tuple rfl B.b_tuple rfl (sa_cons (se_v 8) (sa_nil))) (sa_nil))))) (sg_v 9 sc_law.nd)) (sss_cons (ss_if (st_not (st_truth (se_own C__law_exact (L2N.takes_of rfl rfl rfl rfl) hr (sa_cons (se_own C__law_asked (L2N.takes_of rfl rfl rfl rfl) hr (sa_cons (se_int) (sa_cons (se_v 4) (sa_cons (se_v 9) (sa_cons (se_str) (sa_cons (se_tup (sa_nil)) (sa_nil))))))) (sa_cons (se_own C__law_unlike (L2N.takes_of rfl rfl rfl rfl) hr (sa_cons (se_v 3) (sa_cons (se_v 8) (sa_nil)))) (sa_nil)))))) (sss_one (ss_ret (se_bl))) (sss_nil)) (sss_cons (ss_if (st_not (st_truth (se_own C__law_exact (L2N.takes_of rfl rfl rfl rfl) hr (sa_cons (se_own C__law_asked (L2N.takes_of rfl rfl rfl rfl) hr (sa_cons (se_int) (sa_cons (se_v 9) (sa_cons (se_v 4) (sa_cons (se_str) (sa_cons (se_tup (sa_nil)) (sa_nil))))))) (sa_cons (se_own C__law_unlike (L2N.takes_of rfl rfl rfl rfl) hr (sa_cons (se_v 8) (sa_cons (se_v 3) (sa_nil)))) (sa_nil)))))) (sss_one (ss_ret (se_bl))) (sss_nil)) (sss_cons (ss_asg (se_op os_add (se_lc (own := [("table", 13)]) rfl sc_law.nd (si_seq (se_v 3)) (blkOk_by (N := ["script", "stream", "size", "tables", "matrix", "changes", "way", "wide", "made", "other", "asked", "word", "letter", "table"]) (sc := defScope s_law) (by decide +kernel)) (SGb.of (fun fx s H C cl fp => sg_v 13 sc_law.nd)) (STb.nil) (SEb.of (fun fx s H C cl fp => se_ix (se_v 13) (se_int))) (by decide)) (se_lc (own := [("table", 13)]) rfl sc_law.nd (si_seq (se_v 8)) (blkOk_by (N := ["script", "stream", "size", "tables", "matrix", "changes", "way", "wide", "made", "other", "asked", "word", "letter", "table"]) (sc := defScope s_law) (by decide +kernel)) (SGb.of (fun fx s H C cl fp => sg_v 13 sc_law.nd)) (STb.nil) (SEb.of (fun fx s H C cl fp => se_ix (se_v 13) (se_int))) (by decide))) (sg_v 10 sc_law.nd)) (sss_one (ss_if (st_not (st_truth (se_own C__law_matrix_right (L2N.takes_of rfl rfl rfl rfl) hr (sa_cons (se_v 9) (sa_cons (se_v 7) (sa_cons (se_v 8) (sa_cons (se_v 10) (sa_nil)))))))) (sss_one (ss_ret (se_bl))) (sss_nil))))))))) (sss_cons (ss_asg (se_own C__law_near_names (L2N.takes_of rfl rfl rfl rfl) hr (sa_cons (se_lc (own := [("table", 13)]) rfl sc_law.nd (si_seq (se_v 3)) (blkOk_by (N := ["script", "stream", "size", "tables", "matrix", "changes", "way", "wide", "made", "other", "asked", "word", "letter", "table"]) (sc := defScope s_law) (by decide +kernel)) (SGb.of (fun fx s H C cl fp => sg_v 13 sc_law.nd)) (STb.nil) (SEb.of (fun fx s H C cl fp => se_ix (se_v 13) (se_int))) (by decide)) (sa_nil))) (sg_v 10 sc_law.nd)) (sss_cons (ss_for (passes_of rfl) rfl (si_seq (se_v 10)) (sg_v 11 sc_law.nd) (sss_cons (ss_asg (se_and (se_cmp (os_eq (u64 hr)) (se_callB cs_len rfl B.b_len rfl (sa_cons (se_v 11) (sa_nil))) (se_int) (nomark _)) (se_one (se_cmp os_inSg (se_v 11) (se_str) (by with_unfolding_all rfl)))) (sg_v 12 sc_law.nd)) (sss_one (ss_if (st_not (st_truth (se_own C__law_exact (L2N.takes_of rfl rfl rfl rfl) hr (sa_cons (se_own C_is_letter (L2N.takes_of rfl rfl rfl rfl) hr (sa_cons (se_v 11) (sa_nil))) (sa_cons (se_v 12) (sa_nil)))))) (sss_one (ss_ret (se_bl))) (sss_nil))))) (sss_cons (ss_if (st_not (st_truth (se_own C__law_exact (L2N.takes_of rfl rfl rfl rfl) hr (sa_cons (se_own C__law_asked (L2N.takes_of rfl rfl rfl rfl) hr (sa_cons (se_int) (sa_cons (se_v 4) (sa_cons (se_v 4) (sa_cons (se_str) (sa_cons (se_tup (sa_nil)) (sa_nil))))))) (sa_cons (se_tup (sa_cons (se_str) (sa_cons (se_non) (sa_nil)))) (sa_nil)))))) (sss_one (ss_ret (se_bl))) (sss_nil)) (sss_one (ss_ret (se_own C__law_matrix_right (L2N.takes_of rfl rfl rfl rfl) hr (sa_cons (se_v 4) (sa_cons (se_v 2) (sa_cons (se_v 3) (sa_cons (se_v 10) (sa_nil)))))))))))))))))
end
end G

namespace G
open PySem PySem.Spec PyProof.Rows L2 Av
theorem all_mk {P : Program} {w : World} {K : PySem.W.Frag} {h : Heap} {mg : Str → Option Value} {fa : Addr} (X : K.In h) (G : h.Ns mainGlobals mg) (hfa : mg "law" = some (.ref fa))
    {C_Matrix : Addr} {f0 : Addr} {od0 an0 : Option Addr} {sl0 : Array (Option Value)} {oc0 kV0 dc0 pm0 cd0 ct0 : Value} {f1 : Addr} {od1 an1 : Option Addr} {sl1 : Array (Option Value)} {oc1 kV1 dc1 pm1 cd1 ct1 : Value} {f2 : Addr} {od2 an2 : Option Addr} {sl2 : Array (Option Value)} {oc2 kV2 dc2 pm2 cd2 ct2 : Value} {f3 : Addr} {od3 an3 : Option Addr} {sl3 : Array (Option Value)} {oc3 kV3 dc3 pm3 cd3 ct3 : Value} {f4 : Addr} {od4 an4 : Option Addr} {sl4 : Array (Option Value)} {oc4 kV4 dc4 pm4 cd4 ct4 : Value} {f5 : Addr} {od5 an5 : Option Addr} {sl5 : Array (Option Value)} {oc5 kV5 dc5 pm5 cd5 ct5 : Value} {f6 : Addr} {od6 an6 : Option Addr} {sl6 : Array (Option Value)} {oc6 kV6 dc6 pm6 cd6 ct6 : Value} {f7 : Addr} {od7 an7 : Option Addr} {sl7 : Array (Option Value)} {oc7 kV7 dc7 pm7 cd7 ct7 : Value} {f8 : Addr} {od8 an8 : Option Addr} {sl8 : Array (Option Value)} {oc8 kV8 dc8 pm8 cd8 ct8 : Value} {f9 : Addr} {od9 an9 : Option Addr} {sl9 : Array (Option Value)} {oc9 kV9 dc9 pm9 cd9 ct9 : Value} {f10 : Addr} {od10 an10 : Option Addr} {sl10 : Array (Option Value)} {oc10 kV10 dc10 pm10 cd10 ct10 : Value} {f11 : Addr} {od11 an11 : Option Addr} {sl11 : Array (Option Value)} {oc11 kV11 dc11 pm11 cd11 ct11 : Value} {f12 : Addr} {od12 an12 : Option Addr} {sl12 : Array (Option Value)} {oc12 kV12 dc12 pm12 cd12 ct12 : Value} {f13 : Addr} {od13 an13 : Option Addr} {sl13 : Array (Option Value)} {oc13 kV13 dc13 pm13 cd13 ct13 : Value} {f14 : Addr} {od14 an14 : Option Addr} {sl14 : Array (Option Value)} {oc14 kV14 dc14 pm14 cd14 ct14 : Value} {f15 : Addr} {od15 an15 : Option Addr} {sl15 : Array (Option Value)} {oc15 kV15 dc15 pm15 cd15 ct15 : Value} {f16 : Addr} {od16 an16 : Option Addr} {sl16 : Array (Option Value)} {oc16 kV16 dc16 pm16 cd16 ct16 : Value} {f17 : Addr} {od17 an17 : Option Addr} {sl17 : Array (Option Value)} {oc17 kV17 dc17 pm17 cd17 ct17 : Value} {f18 : Addr} {od18 an18 : Option Addr} {sl18 : Array (Option Value)} {oc18 kV18 dc18 pm18 cd18 ct18 : Value} {f19 : Addr} {od19 an19 : Option Addr} {sl19 : Array (Option Value)} {oc19 kV19 dc19 pm19 cd19 ct19 : Value} {f20 : Addr} {od20 an20 : Option Addr} {sl20 : Array (Option Value)} {oc20 kV20 dc20 pm20 cd20 ct20 : Value} {f21 : Addr} {od21 an21 : Option Addr} {sl21 : Array (Option Value)} {oc21 kV21 dc21 pm21 cd21 ct21 : Value} {f22 : Addr} {od22 an22 : Option Addr} {sl22 : Array (Option Value)} {oc22 kV22 dc22 pm22 cd22 ct22 : Value} {f23 : Addr} {od23 an23 : Option Addr} {sl23 : Array (Option Value)} {oc23 kV23 dc23 pm23 cd23 ct23 : Value} {f24 : Addr} {od24 an24 : Option Addr} {sl24 : Array (Option Value)} {oc24 kV24 dc24 pm24 cd24 ct24 : Value} {f25 : Addr} {od25 an25 : Option Addr} {sl25 : Array (Option Value)} {oc25 kV25 dc25 pm25 cd25 ct25 : Value} {f26 : Addr} {od26 an26 : Option Addr} {sl26 : Array (Option Value)} {oc26 kV26 dc26 pm26 cd26 ct26 : Value} {f27 : Addr} {od27 an27 : Option Addr} {sl27 : Array (Option Value)} {oc27 kV27 dc27 pm27 cd27 ct27 : Value} {f28 : Addr} {od28 an28 : Option Addr} {sl28 : Array (Option Value)} {oc28 kV28 dc28 pm28 cd28 ct28 : Value} {f29 : Addr} {od29 an29 : Option Addr} {sl29 : Array (Option Value)} {oc29 kV29 dc29 pm29 cd29 ct29 : Value} {f30 : Addr} {od30 an30 : Option Addr} {sl30 : Array (Option Value)} {oc30 kV30 dc30 pm30 cd30 ct30 : Value} {f31 : Addr} {od31 an31 : Option Addr} {sl31 : Array (Option Value)} {oc31 kV31 dc31 pm31 cd31 ct31 : Value} {f32 : Addr} {od32 an32 : Option Addr} {sl32 : Array (Option Value)} {oc32 kV32 dc32 pm32 cd32 ct32 : Value} {f33 : Addr} {od33 an33 : Option Addr} {sl33 : Array (Option Value)} {oc33 kV33 dc33 pm33 cd33 ct33 : Value} {f34 : Addr} {od34 an34 : Option Addr} {sl34 : Array (Option Value)} {oc34 kV34 dc34 pm34 cd34 ct34 : Value} {f35 : Addr} {od35 an35 : Option Addr} {sl35 : Array (Option Value)} {oc35 kV35 dc35 pm35 cd35 ct35 : Value} {f36 : Addr} {od36 an36 : Option Addr} {sl36 : Array (Option Value)} {oc36 kV36 dc36 pm36 cd36 ct36 : Value} {f37 : Addr} {od37 an37 : Option Addr} {sl37 : Array (Option Value)} {oc37 kV37 dc37 pm37 cd37 ct37 : Value} {f38 : Addr} {od38 an38 : Option Addr} {sl38 : Array (Option Value)} {oc38 kV38 dc38 pm38 cd38 ct38 : Value} {f39 : Addr} {od39 an39 : Option Addr} {sl39 : Array (Option Value)} {oc39 kV39 dc39 pm39 cd39 ct39 : Value} {f40 : Addr} {od40 an40 : Option Addr} {sl40 : Array (Option Value)} {oc40 kV40 dc40 pm40 cd40 ct40 : Value} {f41 : Addr} {od41 an41 : Option Addr} {sl41 : Array (Option Value)} {oc41 kV41 dc41 pm41 cd41 ct41 : Value} {f42 : Addr} {od42 an42 : Option Addr} {sl42 : Array (Option Value)} {oc42 kV42 dc42 pm42 cd42 ct42 : Value} {D_AnytruthsError : Addr} {D_BadClaim : Addr} {D_BadFormula : Addr} {D_BadMatrix : Addr} {D_BadText : Addr} {D_NoConnective : Addr} {D_NoStep : Addr} {D_NotPlain : Addr} {D_TooMany : Addr} {D_Unlike : Addr} {D_Unseparated : Addr} {nm_BadMatrix q_BadMatrix : Str} {N_BadMatrix : Addr} {bs_BadMatrix bm_BadMatrix sub_BadMatrix : List Value} {sn_BadMatrix : List Str} {ab_BadMatrix : Bool} {col_BadMatrix : Option Bool} {dd_BadMatrix : Option Addr} {k0_BadMatrix k1_BadMatrix k2_BadMatrix k3_BadMatrix k5_BadMatrix : Option Value} {fI_BadMatrix cc_BadMatrix cda_BadMatrix : Addr} {eo_BadMatrix ew_BadMatrix ex1_BadMatrix ex2_BadMatrix et1_BadMatrix : Value} {eod_BadMatrix ean_BadMatrix : Option Addr} {esl_BadMatrix : Array (Option Value)} {eq_BadMatrix : Str} {ej_BadMatrix : Nat} {p1_BadMatrix p2_BadMatrix q1_BadMatrix q2_BadMatrix q3_BadMatrix q4_BadMatrix q5_BadMatrix q6_BadMatrix q7_BadMatrix q8_BadMatrix q9_BadMatrix q10_BadMatrix : Pos} {el1_BadMatrix : Value} {el2_BadMatrix : Option Addr} {el3_BadMatrix : Array (Option Value)} {eu1_BadMatrix : Value} {eu2_BadMatrix : Option Addr} {eu3_BadMatrix : Array Value} {eu4_BadMatrix : Array (Option Value)} {eu5_BadMatrix : Str} {eu6_BadMatrix : Tok} {nm_NoConnective q_NoConnective : Str} {N_NoConnective : Addr} {bs_NoConnective bm_NoConnective sub_NoConnective : List Value} {sn_NoConnective : List Str} {ab_NoConnective : Bool} {col_NoConnective : Option Bool} {dd_NoConnective : Option Addr} {k0_NoConnective k1_NoConnective k2_NoConnective k3_NoConnective k5_NoConnective : Option Value} {fI_NoConnective cc_NoConnective cda_NoConnective : Addr} {eo_NoConnective ew_NoConnective ex1_NoConnective ex2_NoConnective et1_NoConnective : Value} {eod_NoConnective ean_NoConnective : Option Addr} {esl_NoConnective : Array (Option Value)} {eq_NoConnective : Str} {ej_NoConnective : Nat} {p1_NoConnective p2_NoConnective q1_NoConnective q2_NoConnective q3_NoConnective q4_NoConnective q5_NoConnective q6_NoConnective q7_NoConnective q8_NoConnective q9_NoConnective q10_NoConnective : Pos} {el1_NoConnective : Value} {el2_NoConnective : Option Addr} {el3_NoConnective : Array (Option Value)} {eu1_NoConnective : Value} {eu2_NoConnective : Option Addr} {eu3_NoConnective : Array Value} {eu4_NoConnective : Array (Option Value)} {eu5_NoConnective : Str} {eu6_NoConnective : Tok} {nm_NotPlain q_NotPlain : Str} {N_NotPlain : Addr} {bs_NotPlain bm_NotPlain sub_NotPlain : List Value} {sn_NotPlain : List Str} {ab_NotPlain : Bool} {col_NotPlain : Option Bool} {dd_NotPlain : Option Addr} {k0_NotPlain k1_NotPlain k2_NotPlain k3_NotPlain k5_NotPlain : Option Value} {fI_NotPlain cc_NotPlain cda_NotPlain : Addr} {eo_NotPlain ew_NotPlain ex1_NotPlain ex2_NotPlain et1_NotPlain : Value} {eod_NotPlain ean_NotPlain : Option Addr} {esl_NotPlain : Array (Option Value)} {eq_NotPlain : Str} {ej_NotPlain : Nat} {p1_NotPlain p2_NotPlain q1_NotPlain q2_NotPlain q3_NotPlain q4_NotPlain q5_NotPlain q6_NotPlain q7_NotPlain q8_NotPlain q9_NotPlain q10_NotPlain : Pos} {el1_NotPlain : Value} {el2_NotPlain : Option Addr} {el3_NotPlain : Array (Option Value)} {eu1_NotPlain : Value} {eu2_NotPlain : Option Addr} {eu3_NotPlain : Array Value} {eu4_NotPlain : Array (Option Value)} {eu5_NotPlain : Str} {eu6_NotPlain : Tok} {nm_Unlike q_Unlike : Str} {N_Unlike : Addr} {bs_Unlike bm_Unlike sub_Unlike : List Value} {sn_Unlike : List Str} {ab_Unlike : Bool} {col_Unlike : Option Bool} {dd_Unlike : Option Addr} {k0_Unlike k1_Unlike k2_Unlike k3_Unlike k5_Unlike : Option Value} {fI_Unlike cc_Unlike cda_Unlike : Addr} {eo_Unlike ew_Unlike ex1_Unlike ex2_Unlike et1_Unlike : Value} {eod_Unlike ean_Unlike : Option Addr} {esl_Unlike : Array (Option Value)} {eq_Unlike : Str} {ej_Unlike : Nat} {p1_Unlike p2_Unlike q1_Unlike q2_Unlike q3_Unlike q4_Unlike q5_Unlike q6_Unlike q7_Unlike q8_Unlike q9_Unlike q10_Unlike : Pos} {el1_Unlike : Value} {el2_Unlike : Option Addr} {el3_Unlike : Array (Option Value)} {eu1_Unlike : Value} {eu2_Unlike : Option Addr} {eu3_Unlike : Array Value} {eu4_Unlike : Array (Option Value)} {eu5_Unlike : Str} {eu6_Unlike : Tok} {t_GREATEST_SIZE : Tok} {t_LEAST_SIZE : Tok} {t_PLACE_LIMIT : Tok} {t_ROW_LIMIT : Tok} {t_TABLE_LIMIT : Tok}
    (cA_Matrix : PySem.W.nsIn K mainGlobals "Matrix" = some (some (.ref C_Matrix)))
    (cg_Matrix : PySem.W.plainGet K C_Matrix Str.empty = true)
    (ch_Matrix : PySem.W.hasDictIn K C_Matrix = true)
    (co_Matrix : PySem.W.plainOver K C_Matrix = true)
    (cs_Matrix : PySem.W.findIn K (.ref C_Matrix) "__setattr__" = some (some (.builtin "object.__setattr__")))
    (cm_Matrix : PySem.W.makesIn K C_Matrix = true)
    (ck_Matrix : PySem.W.keepIn K (.ref C_Matrix) = true)
    (cn_Matrix_size : PySem.W.findIn K (.ref C_Matrix) "size" = some none)
    (cn_Matrix_designated : PySem.W.findIn K (.ref C_Matrix) "designated" = some none)
    (cn_Matrix_tables : PySem.W.findIn K (.ref C_Matrix) "tables" = some none)
    (cn_Matrix_names : PySem.W.findIn K (.ref C_Matrix) "names" = some none)
    (cn_Matrix_loose : PySem.W.findIn K (.ref C_Matrix) "loose" = some none)
    (cn_Matrix__places : PySem.W.findIn K (.ref C_Matrix) "_places" = some none)
    (cn_Matrix__entries : PySem.W.findIn K (.ref C_Matrix) "_entries" = some none)
    (a0 : PySem.W.nsIn K mainGlobals "_law_stream" = some (some (.ref f0)))
    (l0 : K.lookup f0 = some ⟨oc0, od0, .func (PySem.W.fnOf "_law_stream" "_law_stream" (defArgs s__law_stream) (defBody s__law_stream) (defScope s__law_stream) .none kV0 dc0 pm0 an0 cd0 ct0), sl0⟩)
    (c0 : PySem.W.codeIn K cd0 "_law_stream" = true)
    (k0 : PySem.W.keepIn K (.ref f0) = true)
    (a1 : PySem.W.nsIn K mainGlobals "_law_signs" = some (some (.ref f1)))
    (l1 : K.lookup f1 = some ⟨oc1, od1, .func (PySem.W.fnOf "_law_signs" "_law_signs" (defArgs s__law_signs) (defBody s__law_signs) (defScope s__law_signs) .none kV1 dc1 pm1 an1 cd1 ct1), sl1⟩)
    (c1 : PySem.W.codeIn K cd1 "_law_signs" = true)
    (k1 : PySem.W.keepIn K (.ref f1) = true)
    (a2 : PySem.W.nsIn K mainGlobals "_law_next" = some (some (.ref f2)))
    (l2 : K.lookup f2 = some ⟨oc2, od2, .func (PySem.W.fnOf "_law_next" "_law_next" (defArgs s__law_next) (defBody s__law_next) (defScope s__law_next) .none kV2 dc2 pm2 an2 cd2 ct2), sl2⟩)
    (c2 : PySem.W.codeIn K cd2 "_law_next" = true)
    (k2 : PySem.W.keepIn K (.ref f2) = true)
    (a3 : PySem.W.nsIn K mainGlobals "_law_name" = some (some (.ref f3)))
    (l3 : K.lookup f3 = some ⟨oc3, od3, .func (PySem.W.fnOf "_law_name" "_law_name" (defArgs s__law_name) (defBody s__law_name) (defScope s__law_name) .none kV3 dc3 pm3 an3 cd3 ct3), sl3⟩)
    (c3 : PySem.W.codeIn K cd3 "_law_name" = true)
    (k3 : PySem.W.keepIn K (.ref f3) = true)
    (a4 : PySem.W.nsIn K mainGlobals "_law_count" = some (some (.ref f4)))
    (l4 : K.lookup f4 = some ⟨oc4, od4, .func (PySem.W.fnOf "_law_count" "_law_count" (defArgs s__law_count) (defBody s__law_count) (defScope s__law_count) .none kV4 dc4 pm4 an4 cd4 ct4), sl4⟩)
    (c4 : PySem.W.codeIn K cd4 "_law_count" = true)
    (k4 : PySem.W.keepIn K (.ref f4) = true)
    (a5 : PySem.W.nsIn K mainGlobals "_law_tables" = some (some (.ref f5)))
    (l5 : K.lookup f5 = some ⟨oc5, od5, .func (PySem.W.fnOf "_law_tables" "_law_tables" (defArgs s__law_tables) (defBody s__law_tables) (defScope s__law_tables) .none kV5 dc5 pm5 an5 cd5 ct5), sl5⟩)
    (c5 : PySem.W.codeIn K cd5 "_law_tables" = true)
    (k5 : PySem.W.keepIn K (.ref f5) = true)
    (a6 : PySem.W.nsIn K mainGlobals "is_value" = some (some (.ref f6)))
    (l6 : K.lookup f6 = some ⟨oc6, od6, .func (PySem.W.fnOf "is_value" "is_value" (defArgs s_is_value) (defBody s_is_value) (defScope s_is_value) .none kV6 dc6 pm6 an6 cd6 ct6), sl6⟩)
    (c6 : PySem.W.codeIn K cd6 "is_value" = true)
    (k6 : PySem.W.keepIn K (.ref f6) = true)
    (a7 : PySem.W.nsIn K mainGlobals "is_sign" = some (some (.ref f7)))
    (l7 : K.lookup f7 = some ⟨oc7, od7, .func (PySem.W.fnOf "is_sign" "is_sign" (defArgs s_is_sign) (defBody s_is_sign) (defScope s_is_sign) .none kV7 dc7 pm7 an7 cd7 ct7), sl7⟩)
    (c7 : PySem.W.codeIn K cd7 "is_sign" = true)
    (k7 : PySem.W.keepIn K (.ref f7) = true)
    (a8 : PySem.W.nsIn K mainGlobals "is_name" = some (some (.ref f8)))
    (l8 : K.lookup f8 = some ⟨oc8, od8, .func (PySem.W.fnOf "is_name" "is_name" (defArgs s_is_name) (defBody s_is_name) (defScope s_is_name) .none kV8 dc8 pm8 an8 cd8 ct8), sl8⟩)
    (c8 : PySem.W.codeIn K cd8 "is_name" = true)
    (k8 : PySem.W.keepIn K (.ref f8) = true)
    (a9 : PySem.W.nsIn K mainGlobals "row_count" = some (some (.ref f9)))
    (l9 : K.lookup f9 = some ⟨oc9, od9, .func (PySem.W.fnOf "row_count" "row_count" (defArgs s_row_count) (defBody s_row_count) (defScope s_row_count) .none kV9 dc9 pm9 an9 cd9 ct9), sl9⟩)
    (c9 : PySem.W.codeIn K cd9 "row_count" = true)
    (k9 : PySem.W.keepIn K (.ref f9) = true)
    (a10 : PySem.W.nsIn K mainGlobals "is_table" = some (some (.ref f10)))
    (l10 : K.lookup f10 = some ⟨oc10, od10, .func (PySem.W.fnOf "is_table" "is_table" (defArgs s_is_table) (defBody s_is_table) (defScope s_is_table) .none kV10 dc10 pm10 an10 cd10 ct10), sl10⟩)
    (c10 : PySem.W.codeIn K cd10 "is_table" = true)
    (k10 : PySem.W.keepIn K (.ref f10) = true)
    (a11 : PySem.W.nsIn K mainGlobals "matrix_fault" = some (some (.ref f11)))
    (l11 : K.lookup f11 = some ⟨oc11, od11, .func (PySem.W.fnOf "matrix_fault" "matrix_fault" (defArgs s_matrix_fault) (defBody s_matrix_fault) (defScope s_matrix_fault) .none kV11 dc11 pm11 an11 cd11 ct11), sl11⟩)
    (c11 : PySem.W.codeIn K cd11 "matrix_fault" = true)
    (k11 : PySem.W.keepIn K (.ref f11) = true)
    (a12 : PySem.W.nsIn K mainGlobals "loose_table" = some (some (.ref f12)))
    (l12 : K.lookup f12 = some ⟨oc12, od12, .func (PySem.W.fnOf "loose_table" "loose_table" (defArgs s_loose_table) (defBody s_loose_table) (defScope s_loose_table) .none kV12 dc12 pm12 an12 cd12 ct12), sl12⟩)
    (c12 : PySem.W.codeIn K cd12 "loose_table" = true)
    (k12 : PySem.W.keepIn K (.ref f12) = true)
    (a13 : PySem.W.findIn K (.ref C_Matrix) "__init__" = some (some (.ref f13)))
    (i13 : PySem.W.isFn K (.ref f13) = true)
    (l13 : K.lookup f13 = some ⟨oc13, od13, .func (PySem.W.fnOf "__init__" "Matrix.__init__" (defArgs s_Matrix___init__) (defBody s_Matrix___init__) (defScope s_Matrix___init__) .none kV13 dc13 pm13 an13 cd13 ct13), sl13⟩)
    (c13 : PySem.W.codeIn K cd13 "Matrix.__init__" = true)
    (k13 : PySem.W.keepIn K (.ref f13) = true)
    (a14 : PySem.W.nsIn K mainGlobals "_law_near_names" = some (some (.ref f14)))
    (l14 : K.lookup f14 = some ⟨oc14, od14, .func (PySem.W.fnOf "_law_near_names" "_law_near_names" (defArgs s__law_near_names) (defBody s__law_near_names) (defScope s__law_near_names) .none kV14 dc14 pm14 an14 cd14 ct14), sl14⟩)
    (c14 : PySem.W.codeIn K cd14 "_law_near_names" = true)
    (k14 : PySem.W.keepIn K (.ref f14) = true)
    (a15 : PySem.W.nsIn K mainGlobals "_law_exact" = some (some (.ref f15)))
    (l15 : K.lookup f15 = some ⟨oc15, od15, .func (PySem.W.fnOf "_law_exact" "_law_exact" (defArgs s__law_exact) (defBody s__law_exact) (defScope s__law_exact) .none kV15 dc15 pm15 an15 cd15 ct15), sl15⟩)
    (c15 : PySem.W.codeIn K cd15 "_law_exact" = true)
    (k15 : PySem.W.keepIn K (.ref f15) = true)
    (a16 : PySem.W.findIn K (.ref C_Matrix) "places" = some (some (.ref f16)))
    (i16 : PySem.W.isFn K (.ref f16) = true)
    (l16 : K.lookup f16 = some ⟨oc16, od16, .func (PySem.W.fnOf "places" "Matrix.places" (defArgs s_Matrix_places) (defBody s_Matrix_places) (defScope s_Matrix_places) .none kV16 dc16 pm16 an16 cd16 ct16), sl16⟩)
    (c16 : PySem.W.codeIn K cd16 "Matrix.places" = true)
    (k16 : PySem.W.keepIn K (.ref f16) = true)
    (a17 : PySem.W.nsIn K mainGlobals "need_one_kind" = some (some (.ref f17)))
    (l17 : K.lookup f17 = some ⟨oc17, od17, .func (PySem.W.fnOf "need_one_kind" "need_one_kind" (defArgs s_need_one_kind) (defBody s_need_one_kind) (defScope s_need_one_kind) .none kV17 dc17 pm17 an17 cd17 ct17), sl17⟩)
    (c17 : PySem.W.codeIn K cd17 "need_one_kind" = true)
    (k17 : PySem.W.keepIn K (.ref f17) = true)
    (a18 : PySem.W.nsIn K mainGlobals "_law_kinds" = some (some (.ref f18)))
    (l18 : K.lookup f18 = some ⟨oc18, od18, .func (PySem.W.fnOf "_law_kinds" "_law_kinds" (defArgs s__law_kinds) (defBody s__law_kinds) (defScope s__law_kinds) .none kV18 dc18 pm18 an18 cd18 ct18), sl18⟩)
    (c18 : PySem.W.codeIn K cd18 "_law_kinds" = true)
    (k18 : PySem.W.keepIn K (.ref f18) = true)
    (a19 : PySem.W.nsIn K mainGlobals "need_plain" = some (some (.ref f19)))
    (l19 : K.lookup f19 = some ⟨oc19, od19, .func (PySem.W.fnOf "need_plain" "need_plain" (defArgs s_need_plain) (defBody s_need_plain) (defScope s_need_plain) .none kV19 dc19 pm19 an19 cd19 ct19), sl19⟩)
    (c19 : PySem.W.codeIn K cd19 "need_plain" = true)
    (k19 : PySem.W.keepIn K (.ref f19) = true)
    (a20 : PySem.W.findIn K (.ref C_Matrix) "entries" = some (some (.ref f20)))
    (i20 : PySem.W.isFn K (.ref f20) = true)
    (l20 : K.lookup f20 = some ⟨oc20, od20, .func (PySem.W.fnOf "entries" "Matrix.entries" (defArgs s_Matrix_entries) (defBody s_Matrix_entries) (defScope s_Matrix_entries) .none kV20 dc20 pm20 an20 cd20 ct20), sl20⟩)
    (c20 : PySem.W.codeIn K cd20 "Matrix.entries" = true)
    (k20 : PySem.W.keepIn K (.ref f20) = true)
    (a21 : PySem.W.nsIn K mainGlobals "row_number" = some (some (.ref f21)))
    (l21 : K.lookup f21 = some ⟨oc21, od21, .func (PySem.W.fnOf "row_number" "row_number" (defArgs s_row_number) (defBody s_row_number) (defScope s_row_number) .none kV21 dc21 pm21 an21 cd21 ct21), sl21⟩)
    (c21 : PySem.W.codeIn K cd21 "row_number" = true)
    (k21 : PySem.W.keepIn K (.ref f21) = true)
    (a22 : PySem.W.findIn K (.ref C_Matrix) "entry" = some (some (.ref f22)))
    (i22 : PySem.W.isFn K (.ref f22) = true)
    (l22 : K.lookup f22 = some ⟨oc22, od22, .func (PySem.W.fnOf "entry" "Matrix.entry" (defArgs s_Matrix_entry) (defBody s_Matrix_entry) (defScope s_Matrix_entry) .none kV22 dc22 pm22 an22 cd22 ct22), sl22⟩)
    (c22 : PySem.W.codeIn K cd22 "Matrix.entry" = true)
    (k22 : PySem.W.keepIn K (.ref f22) = true)
    (a23 : PySem.W.findIn K (.ref C_Matrix) "plain_table" = some (some (.ref f23)))
    (i23 : PySem.W.isFn K (.ref f23) = true)
    (l23 : K.lookup f23 = some ⟨oc23, od23, .func (PySem.W.fnOf "plain_table" "Matrix.plain_table" (defArgs s_Matrix_plain_table) (defBody s_Matrix_plain_table) (defScope s_Matrix_plain_table) .none kV23 dc23 pm23 an23 cd23 ct23), sl23⟩)
    (c23 : PySem.W.codeIn K cd23 "Matrix.plain_table" = true)
    (k23 : PySem.W.keepIn K (.ref f23) = true)
    (a24 : PySem.W.nsIn K mainGlobals "_law_asked" = some (some (.ref f24)))
    (l24 : K.lookup f24 = some ⟨oc24, od24, .func (PySem.W.fnOf "_law_asked" "_law_asked" (defArgs s__law_asked) (defBody s__law_asked) (defScope s__law_asked) .none kV24 dc24 pm24 an24 cd24 ct24), sl24⟩)
    (c24 : PySem.W.codeIn K cd24 "_law_asked" = true)
    (k24 : PySem.W.keepIn K (.ref f24) = true)
    (a25 : PySem.W.nsIn K mainGlobals "_law_loose" = some (some (.ref f25)))
    (l25 : K.lookup f25 = some ⟨oc25, od25, .func (PySem.W.fnOf "_law_loose" "_law_loose" (defArgs s__law_loose) (defBody s__law_loose) (defScope s__law_loose) .none kV25 dc25 pm25 an25 cd25 ct25), sl25⟩)
    (c25 : PySem.W.codeIn K cd25 "_law_loose" = true)
    (k25 : PySem.W.keepIn K (.ref f25) = true)
    (a26 : PySem.W.nsIn K mainGlobals "_law_rows" = some (some (.ref f26)))
    (l26 : K.lookup f26 = some ⟨oc26, od26, .func (PySem.W.fnOf "_law_rows" "_law_rows" (defArgs s__law_rows) (defBody s__law_rows) (defScope s__law_rows) .none kV26 dc26 pm26 an26 cd26 ct26), sl26⟩)
    (c26 : PySem.W.codeIn K cd26 "_law_rows" = true)
    (k26 : PySem.W.keepIn K (.ref f26) = true)
    (a27 : PySem.W.findIn K (.ref C_Matrix) "__iter__" = some (some (.ref f27)))
    (i27 : PySem.W.isFn K (.ref f27) = true)
    (j27 : PySem.W.findIn K (.ref C_Matrix) "__contains__" = some none)
    (l27 : K.lookup f27 = some ⟨oc27, od27, .func (PySem.W.fnOf "__iter__" "Matrix.__iter__" (defArgs s_Matrix___iter__) (defBody s_Matrix___iter__) (defScope s_Matrix___iter__) .none kV27 dc27 pm27 an27 cd27 ct27), sl27⟩)
    (c27 : PySem.W.codeIn K cd27 "Matrix.__iter__" = true)
    (k27 : PySem.W.keepIn K (.ref f27) = true)
    (a28 : PySem.W.nsIn K mainGlobals "_law_name_right" = some (some (.ref f28)))
    (l28 : K.lookup f28 = some ⟨oc28, od28, .func (PySem.W.fnOf "_law_name_right" "_law_name_right" (defArgs s__law_name_right) (defBody s__law_name_right) (defScope s__law_name_right) .none kV28 dc28 pm28 an28 cd28 ct28), sl28⟩)
    (c28 : PySem.W.codeIn K cd28 "_law_name_right" = true)
    (k28 : PySem.W.keepIn K (.ref f28) = true)
    (a29 : PySem.W.nsIn K mainGlobals "_law_matrix_right" = some (some (.ref f29)))
    (l29 : K.lookup f29 = some ⟨oc29, od29, .func (PySem.W.fnOf "_law_matrix_right" "_law_matrix_right" (defArgs s__law_matrix_right) (defBody s__law_matrix_right) (defScope s__law_matrix_right) .none kV29 dc29 pm29 an29 cd29 ct29), sl29⟩)
    (c29 : PySem.W.codeIn K cd29 "_law_matrix_right" = true)
    (k29 : PySem.W.keepIn K (.ref f29) = true)
    (a30 : PySem.W.nsIn K mainGlobals "_law_cell" = some (some (.ref f30)))
    (l30 : K.lookup f30 = some ⟨oc30, od30, .func (PySem.W.fnOf "_law_cell" "_law_cell" (defArgs s__law_cell) (defBody s__law_cell) (defScope s__law_cell) .none kV30 dc30 pm30 an30 cd30 ct30), sl30⟩)
    (c30 : PySem.W.codeIn K cd30 "_law_cell" = true)
    (k30 : PySem.W.keepIn K (.ref f30) = true)
    (a31 : PySem.W.nsIn K mainGlobals "_law_sign" = some (some (.ref f31)))
    (l31 : K.lookup f31 = some ⟨oc31, od31, .func (PySem.W.fnOf "_law_sign" "_law_sign" (defArgs s__law_sign) (defBody s__law_sign) (defScope s__law_sign) .none kV31 dc31 pm31 an31 cd31 ct31), sl31⟩)
    (c31 : PySem.W.codeIn K cd31 "_law_sign" = true)
    (k31 : PySem.W.keepIn K (.ref f31) = true)
    (a32 : PySem.W.nsIn K mainGlobals "_law_designated" = some (some (.ref f32)))
    (l32 : K.lookup f32 = some ⟨oc32, od32, .func (PySem.W.fnOf "_law_designated" "_law_designated" (defArgs s__law_designated) (defBody s__law_designated) (defScope s__law_designated) .none kV32 dc32 pm32 an32 cd32 ct32), sl32⟩)
    (c32 : PySem.W.codeIn K cd32 "_law_designated" = true)
    (k32 : PySem.W.keepIn K (.ref f32) = true)
    (a33 : PySem.W.nsIn K mainGlobals "_law_left_out" = some (some (.ref f33)))
    (l33 : K.lookup f33 = some ⟨oc33, od33, .func (PySem.W.fnOf "_law_left_out" "_law_left_out" (defArgs s__law_left_out) (defBody s__law_left_out) (defScope s__law_left_out) .none kV33 dc33 pm33 an33 cd33 ct33), sl33⟩)
    (c33 : PySem.W.codeIn K cd33 "_law_left_out" = true)
    (k33 : PySem.W.keepIn K (.ref f33) = true)
    (a34 : PySem.W.nsIn K mainGlobals "_law_other_places" = some (some (.ref f34)))
    (l34 : K.lookup f34 = some ⟨oc34, od34, .func (PySem.W.fnOf "_law_other_places" "_law_other_places" (defArgs s__law_other_places) (defBody s__law_other_places) (defScope s__law_other_places) .none kV34 dc34 pm34 an34 cd34 ct34), sl34⟩)
    (c34 : PySem.W.codeIn K cd34 "_law_other_places" = true)
    (k34 : PySem.W.keepIn K (.ref f34) = true)
    (a35 : PySem.W.nsIn K mainGlobals "_law_one_more" = some (some (.ref f35)))
    (l35 : K.lookup f35 = some ⟨oc35, od35, .func (PySem.W.fnOf "_law_one_more" "_law_one_more" (defArgs s__law_one_more) (defBody s__law_one_more) (defScope s__law_one_more) .none kV35 dc35 pm35 an35 cd35 ct35), sl35⟩)
    (c35 : PySem.W.codeIn K cd35 "_law_one_more" = true)
    (k35 : PySem.W.keepIn K (.ref f35) = true)
    (a36 : PySem.W.nsIn K mainGlobals "_law_near_name" = some (some (.ref f36)))
    (l36 : K.lookup f36 = some ⟨oc36, od36, .func (PySem.W.fnOf "_law_near_name" "_law_near_name" (defArgs s__law_near_name) (defBody s__law_near_name) (defScope s__law_near_name) .none kV36 dc36 pm36 an36 cd36 ct36), sl36⟩)
    (c36 : PySem.W.codeIn K cd36 "_law_near_name" = true)
    (k36 : PySem.W.keepIn K (.ref f36) = true)
    (a37 : PySem.W.nsIn K mainGlobals "_law_renamed" = some (some (.ref f37)))
    (l37 : K.lookup f37 = some ⟨oc37, od37, .func (PySem.W.fnOf "_law_renamed" "_law_renamed" (defArgs s__law_renamed) (defBody s__law_renamed) (defScope s__law_renamed) .none kV37 dc37 pm37 an37 cd37 ct37), sl37⟩)
    (c37 : PySem.W.codeIn K cd37 "_law_renamed" = true)
    (k37 : PySem.W.keepIn K (.ref f37) = true)
    (a38 : PySem.W.nsIn K mainGlobals "_law_changed" = some (some (.ref f38)))
    (l38 : K.lookup f38 = some ⟨oc38, od38, .func (PySem.W.fnOf "_law_changed" "_law_changed" (defArgs s__law_changed) (defBody s__law_changed) (defScope s__law_changed) .none kV38 dc38 pm38 an38 cd38 ct38), sl38⟩)
    (c38 : PySem.W.codeIn K cd38 "_law_changed" = true)
    (k38 : PySem.W.keepIn K (.ref f38) = true)
    (a39 : PySem.W.nsIn K mainGlobals "_law_other" = some (some (.ref f39)))
    (l39 : K.lookup f39 = some ⟨oc39, od39, .func (PySem.W.fnOf "_law_other" "_law_other" (defArgs s__law_other) (defBody s__law_other) (defScope s__law_other) .none kV39 dc39 pm39 an39 cd39 ct39), sl39⟩)
    (c39 : PySem.W.codeIn K cd39 "_law_other" = true)
    (k39 : PySem.W.keepIn K (.ref f39) = true)
    (a40 : PySem.W.nsIn K mainGlobals "_law_unlike" = some (some (.ref f40)))
    (l40 : K.lookup f40 = some ⟨oc40, od40, .func (PySem.W.fnOf "_law_unlike" "_law_unlike" (defArgs s__law_unlike) (defBody s__law_unlike) (defScope s__law_unlike) .none kV40 dc40 pm40 an40 cd40 ct40), sl40⟩)
    (c40 : PySem.W.codeIn K cd40 "_law_unlike" = true)
    (k40 : PySem.W.keepIn K (.ref f40) = true)
    (a41 : PySem.W.nsIn K mainGlobals "is_letter" = some (some (.ref f41)))
    (l41 : K.lookup f41 = some ⟨oc41, od41, .func (PySem.W.fnOf "is_letter" "is_letter" (defArgs s_is_letter) (defBody s_is_letter) (defScope s_is_letter) .none kV41 dc41 pm41 an41 cd41 ct41), sl41⟩)
    (c41 : PySem.W.codeIn K cd41 "is_letter" = true)
    (k41 : PySem.W.keepIn K (.ref f41) = true)
    (a42 : PySem.W.nsIn K mainGlobals "law" = some (some (.ref f42)))
    (l42 : K.lookup f42 = some ⟨oc42, od42, .func (PySem.W.fnOf "law" "law" (defArgs s_law) (defBody s_law) (defScope s_law) .none kV42 dc42 pm42 an42 cd42 ct42), sl42⟩)
    (c42 : PySem.W.codeIn K cd42 "law" = true)
    (k42 : PySem.W.keepIn K (.ref f42) = true)
    (da_AnytruthsError : PySem.W.nsIn K mainGlobals "AnytruthsError" = some (some (.ref D_AnytruthsError)))
    (db_AnytruthsError : PySem.W.subIn K (.ref D_AnytruthsError) (.type "BaseException") = some true)
    (dc_AnytruthsError : PySem.W.isClsIn K D_AnytruthsError = true)
    (dt_AnytruthsError : PySem.W.typeIn K (.ref D_AnytruthsError) = some (.type "type"))
    (da_BadClaim : PySem.W.nsIn K mainGlobals "BadClaim" = some (some (.ref D_BadClaim)))
    (db_BadClaim : PySem.W.subIn K (.ref D_BadClaim) (.type "BaseException") = some true)
    (dc_BadClaim : PySem.W.isClsIn K D_BadClaim = true)
    (dt_BadClaim : PySem.W.typeIn K (.ref D_BadClaim) = some (.type "type"))
    (da_BadFormula : PySem.W.nsIn K mainGlobals "BadFormula" = some (some (.ref D_BadFormula)))
    (db_BadFormula : PySem.W.subIn K (.ref D_BadFormula) (.type "BaseException") = some true)
    (dc_BadFormula : PySem.W.isClsIn K D_BadFormula = true)
    (dt_BadFormula : PySem.W.typeIn K (.ref D_BadFormula) = some (.type "type"))
    (da_BadMatrix : PySem.W.nsIn K mainGlobals "BadMatrix" = some (some (.ref D_BadMatrix)))
    (db_BadMatrix : PySem.W.subIn K (.ref D_BadMatrix) (.type "BaseException") = some true)
    (dc_BadMatrix : PySem.W.isClsIn K D_BadMatrix = true)
    (dt_BadMatrix : PySem.W.typeIn K (.ref D_BadMatrix) = some (.type "type"))
    (da_BadText : PySem.W.nsIn K mainGlobals "BadText" = some (some (.ref D_BadText)))
    (db_BadText : PySem.W.subIn K (.ref D_BadText) (.type "BaseException") = some true)
    (dc_BadText : PySem.W.isClsIn K D_BadText = true)
    (dt_BadText : PySem.W.typeIn K (.ref D_BadText) = some (.type "type"))
    (da_NoConnective : PySem.W.nsIn K mainGlobals "NoConnective" = some (some (.ref D_NoConnective)))
    (db_NoConnective : PySem.W.subIn K (.ref D_NoConnective) (.type "BaseException") = some true)
    (dc_NoConnective : PySem.W.isClsIn K D_NoConnective = true)
    (dt_NoConnective : PySem.W.typeIn K (.ref D_NoConnective) = some (.type "type"))
    (da_NoStep : PySem.W.nsIn K mainGlobals "NoStep" = some (some (.ref D_NoStep)))
    (db_NoStep : PySem.W.subIn K (.ref D_NoStep) (.type "BaseException") = some true)
    (dc_NoStep : PySem.W.isClsIn K D_NoStep = true)
    (dt_NoStep : PySem.W.typeIn K (.ref D_NoStep) = some (.type "type"))
    (da_NotPlain : PySem.W.nsIn K mainGlobals "NotPlain" = some (some (.ref D_NotPlain)))
    (db_NotPlain : PySem.W.subIn K (.ref D_NotPlain) (.type "BaseException") = some true)
    (dc_NotPlain : PySem.W.isClsIn K D_NotPlain = true)
    (dt_NotPlain : PySem.W.typeIn K (.ref D_NotPlain) = some (.type "type"))
    (da_TooMany : PySem.W.nsIn K mainGlobals "TooMany" = some (some (.ref D_TooMany)))
    (db_TooMany : PySem.W.subIn K (.ref D_TooMany) (.type "BaseException") = some true)
    (dc_TooMany : PySem.W.isClsIn K D_TooMany = true)
    (dt_TooMany : PySem.W.typeIn K (.ref D_TooMany) = some (.type "type"))
    (da_Unlike : PySem.W.nsIn K mainGlobals "Unlike" = some (some (.ref D_Unlike)))
    (db_Unlike : PySem.W.subIn K (.ref D_Unlike) (.type "BaseException") = some true)
    (dc_Unlike : PySem.W.isClsIn K D_Unlike = true)
    (dt_Unlike : PySem.W.typeIn K (.ref D_Unlike) = some (.type "type"))
    (da_Unseparated : PySem.W.nsIn K mainGlobals "Unseparated" = some (some (.ref D_Unseparated)))
    (db_Unseparated : PySem.W.subIn K (.ref D_Unseparated) (.type "BaseException") = some true)
    (dc_Unseparated : PySem.W.isClsIn K D_Unseparated = true)
    (dt_Unseparated : PySem.W.typeIn K (.ref D_Unseparated) = some (.type "type"))
    (eV : PySem.W.subIn K (.type "ValueError") (.type "BaseException") = some true)
    (eSt : PySem.W.nsIn K cStatics "thirdparty.any" = some none)
    (eT : (P.main.scope.names.lookup ("super" : Str)).isSome = false)
    (ec1 : PySem.W.specialIn K (.builtin "object.__class__") "__get__" = some (some (.builtin "getset_descriptor.__get__")))
    (ec2 : PySem.W.takesIn K (.builtin "object.__class__") = some true)
    (ex_BadMatrix : K.lookup D_BadMatrix = some (excClassObj nm_BadMatrix q_BadMatrix D_BadMatrix N_BadMatrix bs_BadMatrix bm_BadMatrix true sn_BadMatrix sub_BadMatrix ab_BadMatrix col_BadMatrix dd_BadMatrix k0_BadMatrix k1_BadMatrix k2_BadMatrix k3_BadMatrix k5_BadMatrix "ValueError.__new__"))
    (er_BadMatrix : PySem.HandSPX.refsVE bm_BadMatrix = true)
    (es_BadMatrix : PySem.W.findIn K (.ref D_BadMatrix) "__setattr__" = some (some (.builtin "object.__setattr__")))
    (eg_BadMatrix : PySem.W.findIn K (.ref D_BadMatrix) "__getattribute__" = some (some (.builtin "BaseException.__getattribute__")))
    (eh_BadMatrix : PySem.W.findIn K (.ref D_BadMatrix) "__getattr__" = some none)
    (en_BadMatrix : PySem.W.findIn K (.ref D_BadMatrix) "place" = some none)
    (ei_BadMatrix : PySem.W.findIn K (.ref D_BadMatrix) "__init__" = some (some (.ref fI_BadMatrix)))
    (et_BadMatrix : PySem.W.typeIn K (.ref fI_BadMatrix) = some (.type "function"))
    (ek_BadMatrix : PySem.W.keepIn K (.ref D_BadMatrix) = true)
    (ev_BadMatrix : PySem.W.subIn K (.ref D_BadMatrix) (.type "ValueError") = some true)
    (em_BadMatrix : PySem.W.mroIn K D_BadMatrix (.ref D_BadMatrix) = some true)
    (ed_BadMatrix : PySem.W.hasDictIn K D_BadMatrix = true)
    (ep_BadMatrix : PySem.W.ks_superIn K D_BadMatrix D_BadMatrix "__init__" = some (some (.builtin "ValueError.__init__")))
    (ef_BadMatrix : K.lookup fI_BadMatrix = some ⟨eo_BadMatrix, eod_BadMatrix, .func (PySem.W.fnX "__init__" eq_BadMatrix (eA "place" p1_BadMatrix p2_BadMatrix) (eB "place" "wrong matrix" ej_BadMatrix q1_BadMatrix q2_BadMatrix q3_BadMatrix q4_BadMatrix q5_BadMatrix q6_BadMatrix q7_BadMatrix q8_BadMatrix q9_BadMatrix q10_BadMatrix) (eS "place") [("__class__", cc_BadMatrix)] .none ew_BadMatrix ex1_BadMatrix ex2_BadMatrix ean_BadMatrix (.ref cda_BadMatrix) et1_BadMatrix), esl_BadMatrix⟩)
    (eq1_BadMatrix : PySem.W.codeIn K (.ref cda_BadMatrix) eq_BadMatrix = true)
    (ee_BadMatrix : EEval "wrong matrix" ej_BadMatrix q1_BadMatrix q2_BadMatrix q3_BadMatrix q4_BadMatrix q5_BadMatrix)
    (el_BadMatrix : K.lookup cc_BadMatrix = some ⟨el1_BadMatrix, el2_BadMatrix, .cell (some (.ref D_BadMatrix)), el3_BadMatrix⟩)
    (eu_BadMatrix : K.lookup cda_BadMatrix = some ⟨eu1_BadMatrix, eu2_BadMatrix, .fields eu3_BadMatrix, eu4_BadMatrix⟩)
    (eu7_BadMatrix : eu3_BadMatrix[2]? = some (.str eu5_BadMatrix eu6_BadMatrix))
    (eu8_BadMatrix : ((P.main.file : Str) == eu5_BadMatrix) = true)
    (eb_BadMatrix : EBind "place" "wrong matrix")
    (eo1_BadMatrix : PySem.W.findIn K (.ref D_BadMatrix) "__class__" = some (some (.builtin "object.__class__")))
    (eo2_BadMatrix : PySem.W.mroIn K D_BadMatrix (.type "object") = some true)
    (ez_BadMatrix_AnytruthsError : PySem.W.subIn K (.ref D_BadMatrix) (.ref D_AnytruthsError) = some true)
    (ez_BadMatrix_BadClaim : PySem.W.subIn K (.ref D_BadMatrix) (.ref D_BadClaim) = some false)
    (ez_BadMatrix_BadFormula : PySem.W.subIn K (.ref D_BadMatrix) (.ref D_BadFormula) = some false)
    (ez_BadMatrix_BadMatrix : PySem.W.subIn K (.ref D_BadMatrix) (.ref D_BadMatrix) = some true)
    (ez_BadMatrix_BadText : PySem.W.subIn K (.ref D_BadMatrix) (.ref D_BadText) = some false)
    (ez_BadMatrix_NoConnective : PySem.W.subIn K (.ref D_BadMatrix) (.ref D_NoConnective) = some false)
    (ez_BadMatrix_NoStep : PySem.W.subIn K (.ref D_BadMatrix) (.ref D_NoStep) = some false)
    (ez_BadMatrix_NotPlain : PySem.W.subIn K (.ref D_BadMatrix) (.ref D_NotPlain) = some false)
    (ez_BadMatrix_TooMany : PySem.W.subIn K (.ref D_BadMatrix) (.ref D_TooMany) = some false)
    (ez_BadMatrix_Unlike : PySem.W.subIn K (.ref D_BadMatrix) (.ref D_Unlike) = some false)
    (ez_BadMatrix_Unseparated : PySem.W.subIn K (.ref D_BadMatrix) (.ref D_Unseparated) = some false)
    (ex_NoConnective : K.lookup D_NoConnective = some (excClassObj nm_NoConnective q_NoConnective D_NoConnective N_NoConnective bs_NoConnective bm_NoConnective true sn_NoConnective sub_NoConnective ab_NoConnective col_NoConnective dd_NoConnective k0_NoConnective k1_NoConnective k2_NoConnective k3_NoConnective k5_NoConnective "ValueError.__new__"))
    (er_NoConnective : PySem.HandSPX.refsVE bm_NoConnective = true)
    (es_NoConnective : PySem.W.findIn K (.ref D_NoConnective) "__setattr__" = some (some (.builtin "object.__setattr__")))
    (eg_NoConnective : PySem.W.findIn K (.ref D_NoConnective) "__getattribute__" = some (some (.builtin "BaseException.__getattribute__")))
    (eh_NoConnective : PySem.W.findIn K (.ref D_NoConnective) "__getattr__" = some none)
    (en_NoConnective : PySem.W.findIn K (.ref D_NoConnective) "name" = some none)
    (ei_NoConnective : PySem.W.findIn K (.ref D_NoConnective) "__init__" = some (some (.ref fI_NoConnective)))
    (et_NoConnective : PySem.W.typeIn K (.ref fI_NoConnective) = some (.type "function"))
    (ek_NoConnective : PySem.W.keepIn K (.ref D_NoConnective) = true)
    (ev_NoConnective : PySem.W.subIn K (.ref D_NoConnective) (.type "ValueError") = some true)
    (em_NoConnective : PySem.W.mroIn K D_NoConnective (.ref D_NoConnective) = some true)
    (ed_NoConnective : PySem.W.hasDictIn K D_NoConnective = true)
    (ep_NoConnective : PySem.W.ks_superIn K D_NoConnective D_NoConnective "__init__" = some (some (.builtin "ValueError.__init__")))
    (ef_NoConnective : K.lookup fI_NoConnective = some ⟨eo_NoConnective, eod_NoConnective, .func (PySem.W.fnX "__init__" eq_NoConnective (eA "name" p1_NoConnective p2_NoConnective) (eB "name" "no such connective" ej_NoConnective q1_NoConnective q2_NoConnective q3_NoConnective q4_NoConnective q5_NoConnective q6_NoConnective q7_NoConnective q8_NoConnective q9_NoConnective q10_NoConnective) (eS "name") [("__class__", cc_NoConnective)] .none ew_NoConnective ex1_NoConnective ex2_NoConnective ean_NoConnective (.ref cda_NoConnective) et1_NoConnective), esl_NoConnective⟩)
    (eq1_NoConnective : PySem.W.codeIn K (.ref cda_NoConnective) eq_NoConnective = true)
    (ee_NoConnective : EEval "no such connective" ej_NoConnective q1_NoConnective q2_NoConnective q3_NoConnective q4_NoConnective q5_NoConnective)
    (el_NoConnective : K.lookup cc_NoConnective = some ⟨el1_NoConnective, el2_NoConnective, .cell (some (.ref D_NoConnective)), el3_NoConnective⟩)
    (eu_NoConnective : K.lookup cda_NoConnective = some ⟨eu1_NoConnective, eu2_NoConnective, .fields eu3_NoConnective, eu4_NoConnective⟩)
    (eu7_NoConnective : eu3_NoConnective[2]? = some (.str eu5_NoConnective eu6_NoConnective))
    (eu8_NoConnective : ((P.main.file : Str) == eu5_NoConnective) = true)
    (eb_NoConnective : EBind "name" "no such connective")
    (eo1_NoConnective : PySem.W.findIn K (.ref D_NoConnective) "__class__" = some (some (.builtin "object.__class__")))
    (eo2_NoConnective : PySem.W.mroIn K D_NoConnective (.type "object") = some true)
    (ez_NoConnective_AnytruthsError : PySem.W.subIn K (.ref D_NoConnective) (.ref D_AnytruthsError) = some true)
    (ez_NoConnective_BadClaim : PySem.W.subIn K (.ref D_NoConnective) (.ref D_BadClaim) = some false)
    (ez_NoConnective_BadFormula : PySem.W.subIn K (.ref D_NoConnective) (.ref D_BadFormula) = some false)
    (ez_NoConnective_BadMatrix : PySem.W.subIn K (.ref D_NoConnective) (.ref D_BadMatrix) = some false)
    (ez_NoConnective_BadText : PySem.W.subIn K (.ref D_NoConnective) (.ref D_BadText) = some false)
    (ez_NoConnective_NoConnective : PySem.W.subIn K (.ref D_NoConnective) (.ref D_NoConnective) = some true)
    (ez_NoConnective_NoStep : PySem.W.subIn K (.ref D_NoConnective) (.ref D_NoStep) = some false)
    (ez_NoConnective_NotPlain : PySem.W.subIn K (.ref D_NoConnective) (.ref D_NotPlain) = some false)
    (ez_NoConnective_TooMany : PySem.W.subIn K (.ref D_NoConnective) (.ref D_TooMany) = some false)
    (ez_NoConnective_Unlike : PySem.W.subIn K (.ref D_NoConnective) (.ref D_Unlike) = some false)
    (ez_NoConnective_Unseparated : PySem.W.subIn K (.ref D_NoConnective) (.ref D_Unseparated) = some false)
    (ex_NotPlain : K.lookup D_NotPlain = some (excClassObj nm_NotPlain q_NotPlain D_NotPlain N_NotPlain bs_NotPlain bm_NotPlain true sn_NotPlain sub_NotPlain ab_NotPlain col_NotPlain dd_NotPlain k0_NotPlain k1_NotPlain k2_NotPlain k3_NotPlain k5_NotPlain "ValueError.__new__"))
    (er_NotPlain : PySem.HandSPX.refsVE bm_NotPlain = true)
    (es_NotPlain : PySem.W.findIn K (.ref D_NotPlain) "__setattr__" = some (some (.builtin "object.__setattr__")))
    (eg_NotPlain : PySem.W.findIn K (.ref D_NotPlain) "__getattribute__" = some (some (.builtin "BaseException.__getattribute__")))
    (eh_NotPlain : PySem.W.findIn K (.ref D_NotPlain) "__getattr__" = some none)
    (en_NotPlain : PySem.W.findIn K (.ref D_NotPlain) "name" = some none)
    (ei_NotPlain : PySem.W.findIn K (.ref D_NotPlain) "__init__" = some (some (.ref fI_NotPlain)))
    (et_NotPlain : PySem.W.typeIn K (.ref fI_NotPlain) = some (.type "function"))
    (ek_NotPlain : PySem.W.keepIn K (.ref D_NotPlain) = true)
    (ev_NotPlain : PySem.W.subIn K (.ref D_NotPlain) (.type "ValueError") = some true)
    (em_NotPlain : PySem.W.mroIn K D_NotPlain (.ref D_NotPlain) = some true)
    (ed_NotPlain : PySem.W.hasDictIn K D_NotPlain = true)
    (ep_NotPlain : PySem.W.ks_superIn K D_NotPlain D_NotPlain "__init__" = some (some (.builtin "ValueError.__init__")))
    (ef_NotPlain : K.lookup fI_NotPlain = some ⟨eo_NotPlain, eod_NotPlain, .func (PySem.W.fnX "__init__" eq_NotPlain (eA "name" p1_NotPlain p2_NotPlain) (eB "name" "an entry has several values" ej_NotPlain q1_NotPlain q2_NotPlain q3_NotPlain q4_NotPlain q5_NotPlain q6_NotPlain q7_NotPlain q8_NotPlain q9_NotPlain q10_NotPlain) (eS "name") [("__class__", cc_NotPlain)] .none ew_NotPlain ex1_NotPlain ex2_NotPlain ean_NotPlain (.ref cda_NotPlain) et1_NotPlain), esl_NotPlain⟩)
    (eq1_NotPlain : PySem.W.codeIn K (.ref cda_NotPlain) eq_NotPlain = true)
    (ee_NotPlain : EEval "an entry has several values" ej_NotPlain q1_NotPlain q2_NotPlain q3_NotPlain q4_NotPlain q5_NotPlain)
    (el_NotPlain : K.lookup cc_NotPlain = some ⟨el1_NotPlain, el2_NotPlain, .cell (some (.ref D_NotPlain)), el3_NotPlain⟩)
    (eu_NotPlain : K.lookup cda_NotPlain = some ⟨eu1_NotPlain, eu2_NotPlain, .fields eu3_NotPlain, eu4_NotPlain⟩)
    (eu7_NotPlain : eu3_NotPlain[2]? = some (.str eu5_NotPlain eu6_NotPlain))
    (eu8_NotPlain : ((P.main.file : Str) == eu5_NotPlain) = true)
    (eb_NotPlain : EBind "name" "an entry has several values")
    (eo1_NotPlain : PySem.W.findIn K (.ref D_NotPlain) "__class__" = some (some (.builtin "object.__class__")))
    (eo2_NotPlain : PySem.W.mroIn K D_NotPlain (.type "object") = some true)
    (ez_NotPlain_AnytruthsError : PySem.W.subIn K (.ref D_NotPlain) (.ref D_AnytruthsError) = some true)
    (ez_NotPlain_BadClaim : PySem.W.subIn K (.ref D_NotPlain) (.ref D_BadClaim) = some false)
    (ez_NotPlain_BadFormula : PySem.W.subIn K (.ref D_NotPlain) (.ref D_BadFormula) = some false)
    (ez_NotPlain_BadMatrix : PySem.W.subIn K (.ref D_NotPlain) (.ref D_BadMatrix) = some false)
    (ez_NotPlain_BadText : PySem.W.subIn K (.ref D_NotPlain) (.ref D_BadText) = some false)
    (ez_NotPlain_NoConnective : PySem.W.subIn K (.ref D_NotPlain) (.ref D_NoConnective) = some false)
    (ez_NotPlain_NoStep : PySem.W.subIn K (.ref D_NotPlain) (.ref D_NoStep) = some false)
    (ez_NotPlain_NotPlain : PySem.W.subIn K (.ref D_NotPlain) (.ref D_NotPlain) = some true)
    (ez_NotPlain_TooMany : PySem.W.subIn K (.ref D_NotPlain) (.ref D_TooMany) = some false)
    (ez_NotPlain_Unlike : PySem.W.subIn K (.ref D_NotPlain) (.ref D_Unlike) = some false)
    (ez_NotPlain_Unseparated : PySem.W.subIn K (.ref D_NotPlain) (.ref D_Unseparated) = some false)
    (ex_Unlike : K.lookup D_Unlike = some (excClassObj nm_Unlike q_Unlike D_Unlike N_Unlike bs_Unlike bm_Unlike true sn_Unlike sub_Unlike ab_Unlike col_Unlike dd_Unlike k0_Unlike k1_Unlike k2_Unlike k3_Unlike k5_Unlike "ValueError.__new__"))
    (er_Unlike : PySem.HandSPX.refsVE bm_Unlike = true)
    (es_Unlike : PySem.W.findIn K (.ref D_Unlike) "__setattr__" = some (some (.builtin "object.__setattr__")))
    (eg_Unlike : PySem.W.findIn K (.ref D_Unlike) "__getattribute__" = some (some (.builtin "BaseException.__getattribute__")))
    (eh_Unlike : PySem.W.findIn K (.ref D_Unlike) "__getattr__" = some none)
    (en_Unlike : PySem.W.findIn K (.ref D_Unlike) "name" = some none)
    (ei_Unlike : PySem.W.findIn K (.ref D_Unlike) "__init__" = some (some (.ref fI_Unlike)))
    (et_Unlike : PySem.W.typeIn K (.ref fI_Unlike) = some (.type "function"))
    (ek_Unlike : PySem.W.keepIn K (.ref D_Unlike) = true)
    (ev_Unlike : PySem.W.subIn K (.ref D_Unlike) (.type "ValueError") = some true)
    (em_Unlike : PySem.W.mroIn K D_Unlike (.ref D_Unlike) = some true)
    (ed_Unlike : PySem.W.hasDictIn K D_Unlike = true)
    (ep_Unlike : PySem.W.ks_superIn K D_Unlike D_Unlike "__init__" = some (some (.builtin "ValueError.__init__")))
    (ef_Unlike : K.lookup fI_Unlike = some ⟨eo_Unlike, eod_Unlike, .func (PySem.W.fnX "__init__" eq_Unlike (eA "name" p1_Unlike p2_Unlike) (eB "name" "the connectives differ" ej_Unlike q1_Unlike q2_Unlike q3_Unlike q4_Unlike q5_Unlike q6_Unlike q7_Unlike q8_Unlike q9_Unlike q10_Unlike) (eS "name") [("__class__", cc_Unlike)] .none ew_Unlike ex1_Unlike ex2_Unlike ean_Unlike (.ref cda_Unlike) et1_Unlike), esl_Unlike⟩)
    (eq1_Unlike : PySem.W.codeIn K (.ref cda_Unlike) eq_Unlike = true)
    (ee_Unlike : EEval "the connectives differ" ej_Unlike q1_Unlike q2_Unlike q3_Unlike q4_Unlike q5_Unlike)
    (el_Unlike : K.lookup cc_Unlike = some ⟨el1_Unlike, el2_Unlike, .cell (some (.ref D_Unlike)), el3_Unlike⟩)
    (eu_Unlike : K.lookup cda_Unlike = some ⟨eu1_Unlike, eu2_Unlike, .fields eu3_Unlike, eu4_Unlike⟩)
    (eu7_Unlike : eu3_Unlike[2]? = some (.str eu5_Unlike eu6_Unlike))
    (eu8_Unlike : ((P.main.file : Str) == eu5_Unlike) = true)
    (eb_Unlike : EBind "name" "the connectives differ")
    (eo1_Unlike : PySem.W.findIn K (.ref D_Unlike) "__class__" = some (some (.builtin "object.__class__")))
    (eo2_Unlike : PySem.W.mroIn K D_Unlike (.type "object") = some true)
    (ez_Unlike_AnytruthsError : PySem.W.subIn K (.ref D_Unlike) (.ref D_AnytruthsError) = some true)
    (ez_Unlike_BadClaim : PySem.W.subIn K (.ref D_Unlike) (.ref D_BadClaim) = some false)
    (ez_Unlike_BadFormula : PySem.W.subIn K (.ref D_Unlike) (.ref D_BadFormula) = some false)
    (ez_Unlike_BadMatrix : PySem.W.subIn K (.ref D_Unlike) (.ref D_BadMatrix) = some false)
    (ez_Unlike_BadText : PySem.W.subIn K (.ref D_Unlike) (.ref D_BadText) = some false)
    (ez_Unlike_NoConnective : PySem.W.subIn K (.ref D_Unlike) (.ref D_NoConnective) = some false)
    (ez_Unlike_NoStep : PySem.W.subIn K (.ref D_Unlike) (.ref D_NoStep) = some false)
    (ez_Unlike_NotPlain : PySem.W.subIn K (.ref D_Unlike) (.ref D_NotPlain) = some false)
    (ez_Unlike_TooMany : PySem.W.subIn K (.ref D_Unlike) (.ref D_TooMany) = some false)
    (ez_Unlike_Unlike : PySem.W.subIn K (.ref D_Unlike) (.ref D_Unlike) = some true)
    (ez_Unlike_Unseparated : PySem.W.subIn K (.ref D_Unlike) (.ref D_Unseparated) = some false)
    (g_GREATEST_SIZE : PySem.W.nsIn K mainGlobals "GREATEST_SIZE" = some (some (.int 4 t_GREATEST_SIZE)))
    (g_LEAST_SIZE : PySem.W.nsIn K mainGlobals "LEAST_SIZE" = some (some (.int 2 t_LEAST_SIZE)))
    (g_PLACE_LIMIT : PySem.W.nsIn K mainGlobals "PLACE_LIMIT" = some (some (.int 3 t_PLACE_LIMIT)))
    (g_ROW_LIMIT : PySem.W.nsIn K mainGlobals "ROW_LIMIT" = some (some (.int 16 t_ROW_LIMIT)))
    (g_TABLE_LIMIT : PySem.W.nsIn K mainGlobals "TABLE_LIMIT" = some (some (.int 6 t_TABLE_LIMIT)))
    (z_ValueError : PySem.W.nsIn K mainGlobals "ValueError" = some none)
    (z_abs : PySem.W.nsIn K mainGlobals "abs" = some none)
    (z_bool : PySem.W.nsIn K mainGlobals "bool" = some none)
    (z_int : PySem.W.nsIn K mainGlobals "int" = some none)
    (z_isinstance : PySem.W.nsIn K mainGlobals "isinstance" = some none)
    (z_iter : PySem.W.nsIn K mainGlobals "iter" = some none)
    (z_len : PySem.W.nsIn K mainGlobals "len" = some none)
    (z_list : PySem.W.nsIn K mainGlobals "list" = some none)
    (z_min : PySem.W.nsIn K mainGlobals "min" = some none)
    (z_range : PySem.W.nsIn K mainGlobals "range" = some none)
    (z_set : PySem.W.nsIn K mainGlobals "set" = some none)
    (z_sorted : PySem.W.nsIn K mainGlobals "sorted" = some none)
    (z_str : PySem.W.nsIn K mainGlobals "str" = some none)
    (z_super : PySem.W.nsIn K mainGlobals "super" = some none)
    (z_tuple : PySem.W.nsIn K mainGlobals "tuple" = some none)
    : ∃ fd : FuncData, (∀ (s : Shared) (v : Value), BindsTo s fd ⟨[v], []⟩ [("script", v)]) ∧ ∀ base : Heap, K.In base → base.Ns mainGlobals mg → FnOk P w K mg base (L2N.CX P w) 11 fa fd ["script"] (spD ⟨K, mg⟩ [] m_law) := by
  have na_AnytruthsError := PySem.W.mg_of X G da_AnytruthsError
  have na_BadClaim := PySem.W.mg_of X G da_BadClaim
  have na_BadFormula := PySem.W.mg_of X G da_BadFormula
  have na_BadMatrix := PySem.W.mg_of X G da_BadMatrix
  have na_BadText := PySem.W.mg_of X G da_BadText
  have na_NoConnective := PySem.W.mg_of X G da_NoConnective
  have na_NoStep := PySem.W.mg_of X G da_NoStep
  have na_NotPlain := PySem.W.mg_of X G da_NotPlain
  have na_TooMany := PySem.W.mg_of X G da_TooMany
  have na_Unlike := PySem.W.mg_of X G da_Unlike
  have na_Unseparated := PySem.W.mg_of X G da_Unseparated
  have xc_BadMatrix : ExCls K D_BadMatrix := ⟨eg_BadMatrix, eh_BadMatrix, db_BadMatrix, ed_BadMatrix, eo1_BadMatrix, ec1, ec2, eo2_BadMatrix⟩
  have xc_NoConnective : ExCls K D_NoConnective := ⟨eg_NoConnective, eh_NoConnective, db_NoConnective, ed_NoConnective, eo1_NoConnective, ec1, ec2, eo2_NoConnective⟩
  have xc_NotPlain : ExCls K D_NotPlain := ⟨eg_NotPlain, eh_NotPlain, db_NotPlain, ed_NotPlain, eo1_NotPlain, ec1, ec2, eo2_NotPlain⟩
  have xc_Unlike : ExCls K D_Unlike := ⟨eg_Unlike, eh_Unlike, db_Unlike, ed_Unlike, eo1_Unlike, ec1, ec2, eo2_Unlike⟩
  have em2_BadMatrix : PySem.W.subIn K (.ref D_BadMatrix) (.ref D_BadMatrix) = some true := ez_BadMatrix_BadMatrix
  have em2_NoConnective : PySem.W.subIn K (.ref D_NoConnective) (.ref D_NoConnective) = some true := ez_NoConnective_NoConnective
  have em2_NotPlain : PySem.W.subIn K (.ref D_NotPlain) (.ref D_NotPlain) = some true := ez_NotPlain_NotPlain
  have em2_Unlike : PySem.W.subIn K (.ref D_Unlike) (.ref D_Unlike) = some true := ez_Unlike_Unlike
  have mc_Matrix' := PySem.W.mg_of X G cA_Matrix
  have cl_Matrix : Cls K C_Matrix := ⟨cg_Matrix, ch_Matrix, co_Matrix, cs_Matrix⟩
  have er1_BadMatrix : Er P K mg "BadMatrix" "place" "wrong matrix" := ⟨D_BadMatrix, fI_BadMatrix, cc_BadMatrix, cda_BadMatrix, { gC := na_BadMatrix, cls := ⟨_, _, _, _, _, _, _, _, _, _, _, _, _, _, _, ex_BadMatrix, er_BadMatrix⟩, sa := es_BadMatrix, ga := eg_BadMatrix, gg := eh_BadMatrix, noN := en_BadMatrix, iC := ei_BadMatrix, tC := et_BadMatrix, kC := ek_BadMatrix, exC := db_BadMatrix, veC := ev_BadMatrix, mrC := em_BadMatrix, tyC := dt_BadMatrix, hdC := ed_BadMatrix, sup := ep_BadMatrix, cell := ⟨_, _, _, el_BadMatrix⟩, code := ⟨_, _, _, _, _, _, eu_BadMatrix, eu7_BadMatrix, eu8_BadMatrix⟩, fn := ⟨_, _, _, _, _, _, _, _, _, _, _, _, _, _, _, _, _, _, _, _, _, _, ef_BadMatrix, eq1_BadMatrix, ee_BadMatrix⟩, topS := eT, stat := eSt, sup0 := PySem.W.mg_none_of X G z_super, fok := by decide +kernel, bnd := eb_BadMatrix }⟩
  have er1_NoConnective : Er P K mg "NoConnective" "name" "no such connective" := ⟨D_NoConnective, fI_NoConnective, cc_NoConnective, cda_NoConnective, { gC := na_NoConnective, cls := ⟨_, _, _, _, _, _, _, _, _, _, _, _, _, _, _, ex_NoConnective, er_NoConnective⟩, sa := es_NoConnective, ga := eg_NoConnective, gg := eh_NoConnective, noN := en_NoConnective, iC := ei_NoConnective, tC := et_NoConnective, kC := ek_NoConnective, exC := db_NoConnective, veC := ev_NoConnective, mrC := em_NoConnective, tyC := dt_NoConnective, hdC := ed_NoConnective, sup := ep_NoConnective, cell := ⟨_, _, _, el_NoConnective⟩, code := ⟨_, _, _, _, _, _, eu_NoConnective, eu7_NoConnective, eu8_NoConnective⟩, fn := ⟨_, _, _, _, _, _, _, _, _, _, _, _, _, _, _, _, _, _, _, _, _, _, ef_NoConnective, eq1_NoConnective, ee_NoConnective⟩, topS := eT, stat := eSt, sup0 := PySem.W.mg_none_of X G z_super, fok := by decide +kernel, bnd := eb_NoConnective }⟩
  have er1_NotPlain : Er P K mg "NotPlain" "name" "an entry has several values" := ⟨D_NotPlain, fI_NotPlain, cc_NotPlain, cda_NotPlain, { gC := na_NotPlain, cls := ⟨_, _, _, _, _, _, _, _, _, _, _, _, _, _, _, ex_NotPlain, er_NotPlain⟩, sa := es_NotPlain, ga := eg_NotPlain, gg := eh_NotPlain, noN := en_NotPlain, iC := ei_NotPlain, tC := et_NotPlain, kC := ek_NotPlain, exC := db_NotPlain, veC := ev_NotPlain, mrC := em_NotPlain, tyC := dt_NotPlain, hdC := ed_NotPlain, sup := ep_NotPlain, cell := ⟨_, _, _, el_NotPlain⟩, code := ⟨_, _, _, _, _, _, eu_NotPlain, eu7_NotPlain, eu8_NotPlain⟩, fn := ⟨_, _, _, _, _, _, _, _, _, _, _, _, _, _, _, _, _, _, _, _, _, _, ef_NotPlain, eq1_NotPlain, ee_NotPlain⟩, topS := eT, stat := eSt, sup0 := PySem.W.mg_none_of X G z_super, fok := by decide +kernel, bnd := eb_NotPlain }⟩
  have er1_Unlike : Er P K mg "Unlike" "name" "the connectives differ" := ⟨D_Unlike, fI_Unlike, cc_Unlike, cda_Unlike, { gC := na_Unlike, cls := ⟨_, _, _, _, _, _, _, _, _, _, _, _, _, _, _, ex_Unlike, er_Unlike⟩, sa := es_Unlike, ga := eg_Unlike, gg := eh_Unlike, noN := en_Unlike, iC := ei_Unlike, tC := et_Unlike, kC := ek_Unlike, exC := db_Unlike, veC := ev_Unlike, mrC := em_Unlike, tyC := dt_Unlike, hdC := ed_Unlike, sup := ep_Unlike, cell := ⟨_, _, _, el_Unlike⟩, code := ⟨_, _, _, _, _, _, eu_Unlike, eu7_Unlike, eu8_Unlike⟩, fn := ⟨_, _, _, _, _, _, _, _, _, _, _, _, _, _, _, _, _, _, _, _, _, _, ef_Unlike, eq1_Unlike, ee_Unlike⟩, topS := eT, stat := eSt, sup0 := PySem.W.mg_none_of X G z_super, fok := by decide +kernel, bnd := eb_Unlike }⟩
  have B : Bi P K mg := { ex := exQ (exRow na_BadMatrix xc_BadMatrix na_AnytruthsError db_AnytruthsError dc_AnytruthsError dt_AnytruthsError ez_BadMatrix_AnytruthsError em2_BadMatrix) (exQ (exRow na_BadMatrix xc_BadMatrix na_BadClaim db_BadClaim dc_BadClaim dt_BadClaim ez_BadMatrix_BadClaim em2_BadMatrix) (exQ (exRow na_BadMatrix xc_BadMatrix na_BadFormula db_BadFormula dc_BadFormula dt_BadFormula ez_BadMatrix_BadFormula em2_BadMatrix) (exQ (exRow na_BadMatrix xc_BadMatrix na_BadMatrix db_BadMatrix dc_BadMatrix dt_BadMatrix ez_BadMatrix_BadMatrix em2_BadMatrix) (exQ (exRow na_BadMatrix xc_BadMatrix na_BadText db_BadText dc_BadText dt_BadText ez_BadMatrix_BadText em2_BadMatrix) (exQ (exRow na_BadMatrix xc_BadMatrix na_NoConnective db_NoConnective dc_NoConnective dt_NoConnective ez_BadMatrix_NoConnective em2_BadMatrix) (exQ (exRow na_BadMatrix xc_BadMatrix na_NoStep db_NoStep dc_NoStep dt_NoStep ez_BadMatrix_NoStep em2_BadMatrix) (exQ (exRow na_BadMatrix xc_BadMatrix na_NotPlain db_NotPlain dc_NotPlain dt_NotPlain ez_BadMatrix_NotPlain em2_BadMatrix) (exQ (exRow na_BadMatrix xc_BadMatrix na_TooMany db_TooMany dc_TooMany dt_TooMany ez_BadMatrix_TooMany em2_BadMatrix) (exQ (exRow na_BadMatrix xc_BadMatrix na_Unlike db_Unlike dc_Unlike dt_Unlike ez_BadMatrix_Unlike em2_BadMatrix) (exQ (exRow na_BadMatrix xc_BadMatrix na_Unseparated db_Unseparated dc_Unseparated dt_Unseparated ez_BadMatrix_Unseparated em2_BadMatrix) (exQ (exRowV na_BadMatrix xc_BadMatrix (PySem.W.mg_none_of X G z_ValueError) ev_BadMatrix eV) (exQ (exRow na_NoConnective xc_NoConnective na_AnytruthsError db_AnytruthsError dc_AnytruthsError dt_AnytruthsError ez_NoConnective_AnytruthsError em2_NoConnective) (exQ (exRow na_NoConnective xc_NoConnective na_BadClaim db_BadClaim dc_BadClaim dt_BadClaim ez_NoConnective_BadClaim em2_NoConnective) (exQ (exRow na_NoConnective xc_NoConnective na_BadFormula db_BadFormula dc_BadFormula dt_BadFormula ez_NoConnective_BadFormula em2_NoConnective) (exQ (exRow na_NoConnective xc_NoConnective na_BadMatrix db_BadMatrix dc_BadMatrix dt_BadMatrix ez_NoConnective_BadMatrix em2_NoConnective) (exQ (exRow na_NoConnective xc_NoConnective na_BadText db_BadText dc_BadText dt_BadText ez_NoConnective_BadText em2_NoConnective) (exQ (exRow na_NoConnective xc_NoConnective na_NoConnective db_NoConnective dc_NoConnective dt_NoConnective ez_NoConnective_NoConnective em2_NoConnective) (exQ (exRow na_NoConnective xc_NoConnective na_NoStep db_NoStep dc_NoStep dt_NoStep ez_NoConnective_NoStep em2_NoConnective) (exQ (exRow na_NoConnective xc_NoConnective na_NotPlain db_NotPlain dc_NotPlain dt_NotPlain ez_NoConnective_NotPlain em2_NoConnective) (exQ (exRow na_NoConnective xc_NoConnective na_TooMany db_TooMany dc_TooMany dt_TooMany ez_NoConnective_TooMany em2_NoConnective) (exQ (exRow na_NoConnective xc_NoConnective na_Unlike db_Unlike dc_Unlike dt_Unlike ez_NoConnective_Unlike em2_NoConnective) (exQ (exRow na_NoConnective xc_NoConnective na_Unseparated db_Unseparated dc_Unseparated dt_Unseparated ez_NoConnective_Unseparated em2_NoConnective) (exQ (exRowV na_NoConnective xc_NoConnective (PySem.W.mg_none_of X G z_ValueError) ev_NoConnective eV) (exQ (exRow na_NotPlain xc_NotPlain na_AnytruthsError db_AnytruthsError dc_AnytruthsError dt_AnytruthsError ez_NotPlain_AnytruthsError em2_NotPlain) (exQ (exRow na_NotPlain xc_NotPlain na_BadClaim db_BadClaim dc_BadClaim dt_BadClaim ez_NotPlain_BadClaim em2_NotPlain) (exQ (exRow na_NotPlain xc_NotPlain na_BadFormula db_BadFormula dc_BadFormula dt_BadFormula ez_NotPlain_BadFormula em2_NotPlain) (exQ (exRow na_NotPlain xc_NotPlain na_BadMatrix db_BadMatrix dc_BadMatrix dt_BadMatrix ez_NotPlain_BadMatrix em2_NotPlain) (exQ (exRow na_NotPlain xc_NotPlain na_BadText db_BadText dc_BadText dt_BadText ez_NotPlain_BadText em2_NotPlain) (exQ (exRow na_NotPlain xc_NotPlain na_NoConnective db_NoConnective dc_NoConnective dt_NoConnective ez_NotPlain_NoConnective em2_NotPlain) (exQ (exRow na_NotPlain xc_NotPlain na_NoStep db_NoStep dc_NoStep dt_NoStep ez_NotPlain_NoStep em2_NotPlain) (exQ (exRow na_NotPlain xc_NotPlain na_NotPlain db_NotPlain dc_NotPlain dt_NotPlain ez_NotPlain_NotPlain em2_NotPlain) (exQ (exRow na_NotPlain xc_NotPlain na_TooMany db_TooMany dc_TooMany dt_TooMany ez_NotPlain_TooMany em2_NotPlain) (exQ (exRow na_NotPlain xc_NotPlain na_Unlike db_Unlike dc_Unlike dt_Unlike ez_NotPlain_Unlike em2_NotPlain) (exQ (exRow na_NotPlain xc_NotPlain na_Unseparated db_Unseparated dc_Unseparated dt_Unseparated ez_NotPlain_Unseparated em2_NotPlain) (exQ (exRowV na_NotPlain xc_NotPlain (PySem.W.mg_none_of X G z_ValueError) ev_NotPlain eV) (exQ (exRow na_Unlike xc_Unlike na_AnytruthsError db_AnytruthsError dc_AnytruthsError dt_AnytruthsError ez_Unlike_AnytruthsError em2_Unlike) (exQ (exRow na_Unlike xc_Unlike na_BadClaim db_BadClaim dc_BadClaim dt_BadClaim ez_Unlike_BadClaim em2_Unlike) (exQ (exRow na_Unlike xc_Unlike na_BadFormula db_BadFormula dc_BadFormula dt_BadFormula ez_Unlike_BadFormula em2_Unlike) (exQ (exRow na_Unlike xc_Unlike na_BadMatrix db_BadMatrix dc_BadMatrix dt_BadMatrix ez_Unlike_BadMatrix em2_Unlike) (exQ (exRow na_Unlike xc_Unlike na_BadText db_BadText dc_BadText dt_BadText ez_Unlike_BadText em2_Unlike) (exQ (exRow na_Unlike xc_Unlike na_NoConnective db_NoConnective dc_NoConnective dt_NoConnective ez_Unlike_NoConnective em2_Unlike) (exQ (exRow na_Unlike xc_Unlike na_NoStep db_NoStep dc_NoStep dt_NoStep ez_Unlike_NoStep em2_Unlike) (exQ (exRow na_Unlike xc_Unlike na_NotPlain db_NotPlain dc_NotPlain dt_NotPlain ez_Unlike_NotPlain em2_Unlike) (exQ (exRow na_Unlike xc_Unlike na_TooMany db_TooMany dc_TooMany dt_TooMany ez_Unlike_TooMany em2_Unlike) (exQ (exRow na_Unlike xc_Unlike na_Unlike db_Unlike dc_Unlike dt_Unlike ez_Unlike_Unlike em2_Unlike) (exQ (exRow na_Unlike xc_Unlike na_Unseparated db_Unseparated dc_Unseparated dt_Unseparated ez_Unlike_Unseparated em2_Unlike) (exQ (exRowV na_Unlike xc_Unlike (PySem.W.mg_none_of X G z_ValueError) ev_Unlike eV) (exF na_NoConnective ⟨eg_NoConnective, eh_NoConnective, db_NoConnective, ed_NoConnective⟩ en_NoConnective (exF na_NotPlain ⟨eg_NotPlain, eh_NotPlain, db_NotPlain, ed_NotPlain⟩ en_NotPlain (exF na_Unlike ⟨eg_Unlike, eh_Unlike, db_Unlike, ed_Unlike⟩ en_Unlike (exNil))))))))))))))))))))))))))))))))))))))))))))))))))), cl := clsCons mc_Matrix' cl_Matrix cn_Matrix_size (clsCons mc_Matrix' cl_Matrix cn_Matrix_designated (clsCons mc_Matrix' cl_Matrix cn_Matrix_tables (clsCons mc_Matrix' cl_Matrix cn_Matrix_names (clsCons mc_Matrix' cl_Matrix cn_Matrix_loose (clsCons mc_Matrix' cl_Matrix cn_Matrix__places (clsCons mc_Matrix' cl_Matrix cn_Matrix__entries (clsNil))))))), r_BadMatrix := er1_BadMatrix, r_NoConnective := er1_NoConnective, r_NotPlain := er1_NotPlain, r_Unlike := er1_Unlike, n_AnytruthsError := ⟨_, na_AnytruthsError⟩, g_GREATEST_SIZE := ⟨_, PySem.W.mg_of X G g_GREATEST_SIZE⟩, g_LEAST_SIZE := ⟨_, PySem.W.mg_of X G g_LEAST_SIZE⟩, g_PLACE_LIMIT := ⟨_, PySem.W.mg_of X G g_PLACE_LIMIT⟩, g_ROW_LIMIT := ⟨_, PySem.W.mg_of X G g_ROW_LIMIT⟩, g_TABLE_LIMIT := ⟨_, PySem.W.mg_of X G g_TABLE_LIMIT⟩, b_ValueError := PySem.W.mg_none_of X G z_ValueError, b_abs := PySem.W.mg_none_of X G z_abs, b_bool := PySem.W.mg_none_of X G z_bool, b_int := PySem.W.mg_none_of X G z_int, b_isinstance := PySem.W.mg_none_of X G z_isinstance, b_iter := PySem.W.mg_none_of X G z_iter, b_len := PySem.W.mg_none_of X G z_len, b_list := PySem.W.mg_none_of X G z_list, b_min := PySem.W.mg_none_of X G z_min, b_range := PySem.W.mg_none_of X G z_range, b_set := PySem.W.mg_none_of X G z_set, b_sorted := PySem.W.mg_none_of X G z_sorted, b_str := PySem.W.mg_none_of X G z_str, b_super := PySem.W.mg_none_of X G z_super, b_tuple := PySem.W.mg_none_of X G z_tuple }
  have S0 : Src K mg "_law_stream" s__law_stream ["cell"] := by
    have F := fun_mk (st := s__law_stream) l0 c0 k0
    exact ⟨_, _, F, PySem.W.mg_of X G a0, F.binds (ps := ["cell"]) fun _ _ _ _ _ _ us hl => match us, hl with | [_], _ => rfl⟩
  have S1 : Src K mg "_law_signs" s__law_signs ["size"] := by
    have F := fun_mk (st := s__law_signs) l1 c1 k1
    exact ⟨_, _, F, PySem.W.mg_of X G a1, F.binds (ps := ["size"]) fun _ _ _ _ _ _ us hl => match us, hl with | [_], _ => rfl⟩
  have S2 : Src K mg "_law_next" s__law_next ["stream", "limit"] := by
    have F := fun_mk (st := s__law_next) l2 c2 k2
    exact ⟨_, _, F, PySem.W.mg_of X G a2, F.binds (ps := ["stream", "limit"]) fun _ _ _ _ _ _ us hl => match us, hl with | [_, _], _ => rfl⟩
  have S3 : Src K mg "_law_name" s__law_name ["stream"] := by
    have F := fun_mk (st := s__law_name) l3 c3 k3
    exact ⟨_, _, F, PySem.W.mg_of X G a3, F.binds (ps := ["stream"]) fun _ _ _ _ _ _ us hl => match us, hl with | [_], _ => rfl⟩
  have S4 : Src K mg "_law_count" s__law_count ["size", "places"] := by
    have F := fun_mk (st := s__law_count) l4 c4 k4
    exact ⟨_, _, F, PySem.W.mg_of X G a4, F.binds (ps := ["size", "places"]) fun _ _ _ _ _ _ us hl => match us, hl with | [_, _], _ => rfl⟩
  have S5 : Src K mg "_law_tables" s__law_tables ["stream", "size", "plain"] := by
    have F := fun_mk (st := s__law_tables) l5 c5 k5
    exact ⟨_, _, F, PySem.W.mg_of X G a5, F.binds (ps := ["stream", "size", "plain"]) fun _ _ _ _ _ _ us hl => match us, hl with | [_, _, _], _ => rfl⟩
  have S6 : Src K mg "is_value" s_is_value ["size", "datum"] := by
    have F := fun_mk (st := s_is_value) l6 c6 k6
    exact ⟨_, _, F, PySem.W.mg_of X G a6, F.binds (ps := ["size", "datum"]) fun _ _ _ _ _ _ us hl => match us, hl with | [_, _], _ => rfl⟩
  have S7 : Src K mg "is_sign" s_is_sign ["size", "datum"] := by
    have F := fun_mk (st := s_is_sign) l7 c7 k7
    exact ⟨_, _, F, PySem.W.mg_of X G a7, F.binds (ps := ["size", "datum"]) fun _ _ _ _ _ _ us hl => match us, hl with | [_, _], _ => rfl⟩
  have S8 : Src K mg "is_name" s_is_name ["text"] := by
    have F := fun_mk (st := s_is_name) l8 c8 k8
    exact ⟨_, _, F, PySem.W.mg_of X G a8, F.binds (ps := ["text"]) fun _ _ _ _ _ _ us hl => match us, hl with | [_], _ => rfl⟩
  have S9 : Src K mg "row_count" s_row_count ["size", "places"] := by
    have F := fun_mk (st := s_row_count) l9 c9 k9
    exact ⟨_, _, F, PySem.W.mg_of X G a9, F.binds (ps := ["size", "places"]) fun _ _ _ _ _ _ us hl => match us, hl with | [_, _], _ => rfl⟩
  have S10 : Src K mg "is_table" s_is_table ["size", "places", "entries"] := by
    have F := fun_mk (st := s_is_table) l10 c10 k10
    exact ⟨_, _, F, PySem.W.mg_of X G a10, F.binds (ps := ["size", "places", "entries"]) fun _ _ _ _ _ _ us hl => match us, hl with | [_, _, _], _ => rfl⟩
  have S11 : Src K mg "matrix_fault" s_matrix_fault ["size", "designated", "tables"] := by
    have F := fun_mk (st := s_matrix_fault) l11 c11 k11
    exact ⟨_, _, F, PySem.W.mg_of X G a11, F.binds (ps := ["size", "designated", "tables"]) fun _ _ _ _ _ _ us hl => match us, hl with | [_, _, _], _ => rfl⟩
  have S12 : Src K mg "loose_table" s_loose_table ["tables"] := by
    have F := fun_mk (st := s_loose_table) l12 c12 k12
    exact ⟨_, _, F, PySem.W.mg_of X G a12, F.binds (ps := ["tables"]) fun _ _ _ _ _ _ us hl => match us, hl with | [_], _ => rfl⟩
  have S13 : SrcM K "__init__" "Matrix.__init__" s_Matrix___init__ ["self", "size", "designated", "tables"] f13 := by
    have F := fun_mk (st := s_Matrix___init__) l13 c13 k13
    exact ⟨_, F, F.binds (ps := ["self", "size", "designated", "tables"]) fun _ _ _ _ _ _ us hl => match us, hl with | [_, _, _, _], _ => rfl⟩
  have S14 : Src K mg "_law_near_names" s__law_near_names ["names"] := by
    have F := fun_mk (st := s__law_near_names) l14 c14 k14
    exact ⟨_, _, F, PySem.W.mg_of X G a14, F.binds (ps := ["names"]) fun _ _ _ _ _ _ us hl => match us, hl with | [_], _ => rfl⟩
  have S15 : Src K mg "_law_exact" s__law_exact ["actual", "expected"] := by
    have F := fun_mk (st := s__law_exact) l15 c15 k15
    exact ⟨_, _, F, PySem.W.mg_of X G a15, F.binds (ps := ["actual", "expected"]) fun _ _ _ _ _ _ us hl => match us, hl with | [_, _], _ => rfl⟩
  have S16 : SrcM K "places" "Matrix.places" s_Matrix_places ["self", "name"] f16 := by
    have F := fun_mk (st := s_Matrix_places) l16 c16 k16
    exact ⟨_, F, F.binds (ps := ["self", "name"]) fun _ _ _ _ _ _ us hl => match us, hl with | [_, _], _ => rfl⟩
  have S17 : Src K mg "need_one_kind" s_need_one_kind ["one", "other"] := by
    have F := fun_mk (st := s_need_one_kind) l17 c17 k17
    exact ⟨_, _, F, PySem.W.mg_of X G a17, F.binds (ps := ["one", "other"]) fun _ _ _ _ _ _ us hl => match us, hl with | [_, _], _ => rfl⟩
  have S18 : Src K mg "_law_kinds" s__law_kinds ["e"] := by
    have F := fun_mk (st := s__law_kinds) l18 c18 k18
    exact ⟨_, _, F, PySem.W.mg_of X G a18, F.binds (ps := ["e"]) fun _ _ _ _ _ _ us hl => match us, hl with | [_], _ => rfl⟩
  have S19 : Src K mg "need_plain" s_need_plain ["matrix"] := by
    have F := fun_mk (st := s_need_plain) l19 c19 k19
    exact ⟨_, _, F, PySem.W.mg_of X G a19, F.binds (ps := ["matrix"]) fun _ _ _ _ _ _ us hl => match us, hl with | [_], _ => rfl⟩
  have S20 : SrcM K "entries" "Matrix.entries" s_Matrix_entries ["self", "name"] f20 := by
    have F := fun_mk (st := s_Matrix_entries) l20 c20 k20
    exact ⟨_, F, F.binds (ps := ["self", "name"]) fun _ _ _ _ _ _ us hl => match us, hl with | [_, _], _ => rfl⟩
  have S21 : Src K mg "row_number" s_row_number ["size", "row"] := by
    have F := fun_mk (st := s_row_number) l21 c21 k21
    exact ⟨_, _, F, PySem.W.mg_of X G a21, F.binds (ps := ["size", "row"]) fun _ _ _ _ _ _ us hl => match us, hl with | [_, _], _ => rfl⟩
  have S22 : SrcM K "entry" "Matrix.entry" s_Matrix_entry ["self", "name", "row"] f22 := by
    have F := fun_mk (st := s_Matrix_entry) l22 c22 k22
    exact ⟨_, F, F.binds (ps := ["self", "name", "row"]) fun _ _ _ _ _ _ us hl => match us, hl with | [_, _, _], _ => rfl⟩
  have S23 : SrcM K "plain_table" "Matrix.plain_table" s_Matrix_plain_table ["self", "name"] f23 := by
    have F := fun_mk (st := s_Matrix_plain_table) l23 c23 k23
    exact ⟨_, F, F.binds (ps := ["self", "name"]) fun _ _ _ _ _ _ us hl => match us, hl with | [_, _], _ => rfl⟩
  have S24 : Src K mg "_law_asked" s__law_asked ["way", "matrix", "other", "name", "row"] := by
    have F := fun_mk (st := s__law_asked) l24 c24 k24
    exact ⟨_, _, F, PySem.W.mg_of X G a24, F.binds (ps := ["way", "matrix", "other", "name", "row"]) fun _ _ _ _ _ _ us hl => match us, hl with | [_, _, _, _, _], _ => rfl⟩
  have S25 : Src K mg "_law_loose" s__law_loose ["tables"] := by
    have F := fun_mk (st := s__law_loose) l25 c25 k25
    exact ⟨_, _, F, PySem.W.mg_of X G a25, F.binds (ps := ["tables"]) fun _ _ _ _ _ _ us hl => match us, hl with | [_], _ => rfl⟩
  have S26 : Src K mg "_law_rows" s__law_rows ["size", "places"] := by
    have F := fun_mk (st := s__law_rows) l26 c26 k26
    exact ⟨_, _, F, PySem.W.mg_of X G a26, F.binds (ps := ["size", "places"]) fun _ _ _ _ _ _ us hl => match us, hl with | [_, _], _ => rfl⟩
  have S27 : SrcM K "__iter__" "Matrix.__iter__" s_Matrix___iter__ ["self"] f27 := by
    have F := fun_mk (st := s_Matrix___iter__) l27 c27 k27
    exact ⟨_, F, F.binds (ps := ["self"]) fun _ _ _ _ _ _ us hl => match us, hl with | [_], _ => rfl⟩
  have S28 : Src K mg "_law_name_right" s__law_name_right ["matrix", "size", "tables", "name"] := by
    have F := fun_mk (st := s__law_name_right) l28 c28 k28
    exact ⟨_, _, F, PySem.W.mg_of X G a28, F.binds (ps := ["matrix", "size", "tables", "name"]) fun _ _ _ _ _ _ us hl => match us, hl with | [_, _, _, _], _ => rfl⟩
  have S29 : Src K mg "_law_matrix_right" s__law_matrix_right ["matrix", "size", "tables", "asked"] := by
    have F := fun_mk (st := s__law_matrix_right) l29 c29 k29
    exact ⟨_, _, F, PySem.W.mg_of X G a29, F.binds (ps := ["matrix", "size", "tables", "asked"]) fun _ _ _ _ _ _ us hl => match us, hl with | [_, _, _, _], _ => rfl⟩
  have S30 : Src K mg "_law_cell" s__law_cell ["script", "k"] := by
    have F := fun_mk (st := s__law_cell) l30 c30 k30
    exact ⟨_, _, F, PySem.W.mg_of X G a30, F.binds (ps := ["script", "k"]) fun _ _ _ _ _ _ us hl => match us, hl with | [_, _], _ => rfl⟩
  have S31 : Src K mg "_law_sign" s__law_sign ["stream", "size", "least"] := by
    have F := fun_mk (st := s__law_sign) l31 c31 k31
    exact ⟨_, _, F, PySem.W.mg_of X G a31, F.binds (ps := ["stream", "size", "least"]) fun _ _ _ _ _ _ us hl => match us, hl with | [_, _, _], _ => rfl⟩
  have S32 : Src K mg "_law_designated" s__law_designated ["stream", "size"] := by
    have F := fun_mk (st := s__law_designated) l32 c32 k32
    exact ⟨_, _, F, PySem.W.mg_of X G a32, F.binds (ps := ["stream", "size"]) fun _ _ _ _ _ _ us hl => match us, hl with | [_, _], _ => rfl⟩
  have S33 : Src K mg "_law_left_out" s__law_left_out ["stream", "pairs"] := by
    have F := fun_mk (st := s__law_left_out) l33 c33 k33
    exact ⟨_, _, F, PySem.W.mg_of X G a33, F.binds (ps := ["stream", "pairs"]) fun _ _ _ _ _ _ us hl => match us, hl with | [_, _], _ => rfl⟩
  have S34 : Src K mg "_law_other_places" s__law_other_places ["stream", "wide", "pairs"] := by
    have F := fun_mk (st := s__law_other_places) l34 c34 k34
    exact ⟨_, _, F, PySem.W.mg_of X G a34, F.binds (ps := ["stream", "wide", "pairs"]) fun _ _ _ _ _ _ us hl => match us, hl with | [_, _, _], _ => rfl⟩
  have S35 : Src K mg "_law_one_more" s__law_one_more ["stream", "pairs", "name"] := by
    have F := fun_mk (st := s__law_one_more) l35 c35 k35
    exact ⟨_, _, F, PySem.W.mg_of X G a35, F.binds (ps := ["stream", "pairs", "name"]) fun _ _ _ _ _ _ us hl => match us, hl with | [_, _, _], _ => rfl⟩
  have S36 : Src K mg "_law_near_name" s__law_near_name ["stream", "name"] := by
    have F := fun_mk (st := s__law_near_name) l36 c36 k36
    exact ⟨_, _, F, PySem.W.mg_of X G a36, F.binds (ps := ["stream", "name"]) fun _ _ _ _ _ _ us hl => match us, hl with | [_, _], _ => rfl⟩
  have S37 : Src K mg "_law_renamed" s__law_renamed ["stream", "pairs"] := by
    have F := fun_mk (st := s__law_renamed) l37 c37 k37
    exact ⟨_, _, F, PySem.W.mg_of X G a37, F.binds (ps := ["stream", "pairs"]) fun _ _ _ _ _ _ us hl => match us, hl with | [_, _], _ => rfl⟩
  have S38 : Src K mg "_law_changed" s__law_changed ["stream", "size", "pairs", "way"] := by
    have F := fun_mk (st := s__law_changed) l38 c38 k38
    exact ⟨_, _, F, PySem.W.mg_of X G a38, F.binds (ps := ["stream", "size", "pairs", "way"]) fun _ _ _ _ _ _ us hl => match us, hl with | [_, _, _, _], _ => rfl⟩
  have S39 : Src K mg "_law_other" s__law_other ["stream", "size", "tables", "way"] := by
    have F := fun_mk (st := s__law_other) l39 c39 k39
    exact ⟨_, _, F, PySem.W.mg_of X G a39, F.binds (ps := ["stream", "size", "tables", "way"]) fun _ _ _ _ _ _ us hl => match us, hl with | [_, _, _, _], _ => rfl⟩
  have S40 : Src K mg "_law_unlike" s__law_unlike ["one", "other"] := by
    have F := fun_mk (st := s__law_unlike) l40 c40 k40
    exact ⟨_, _, F, PySem.W.mg_of X G a40, F.binds (ps := ["one", "other"]) fun _ _ _ _ _ _ us hl => match us, hl with | [_, _], _ => rfl⟩
  have S41 : Src K mg "is_letter" s_is_letter ["word"] := by
    have F := fun_mk (st := s_is_letter) l41 c41 k41
    exact ⟨_, _, F, PySem.W.mg_of X G a41, F.binds (ps := ["word"]) fun _ _ _ _ _ _ us hl => match us, hl with | [_], _ => rfl⟩
  have e := hfa.symm.trans (PySem.W.mg_of X G a42)
  cases e
  refine ⟨PySem.W.fnOf "law" "law" (defArgs s_law) (defBody s_law) (defScope s_law) .none kV42 dc42 pm42 an42 cd42 ct42, fun s v => .of_eq rfl, fun base _ _ => ?_⟩
  have C0 := ok__law_stream (P := P) (w := w) (base := base) B S0 
  have C1 := ok__law_signs (P := P) (w := w) (base := base) B S1 
  have C2 := ok__law_next (P := P) (w := w) (base := base) B S2 
  have C3 := ok__law_name (P := P) (w := w) (base := base) B S3 C2
  have C4 := ok__law_count (P := P) (w := w) (base := base) B S4 
  have C5 := ok__law_tables (P := P) (w := w) (base := base) B S5 C1 C2 C3 C4
  have C6 := ok_is_value (P := P) (w := w) (base := base) B S6 
  have C7 := ok_is_sign (P := P) (w := w) (base := base) B S7 C6
  have C8 := ok_is_name (P := P) (w := w) (base := base) B S8 
  have C9 := ok_row_count (P := P) (w := w) (base := base) B S9 
  have C10 := ok_is_table (P := P) (w := w) (base := base) B S10 C9 C7
  have C11 := ok_matrix_fault (P := P) (w := w) (base := base) B S11 C7 C8 C10
  have C12 := ok_loose_table (P := P) (w := w) (base := base) B S12 
  have C13 := ok_Matrix___init__ (P := P) (w := w) (base := base) B mc_Matrix' ⟨cm_Matrix, a13, i13, ck_Matrix⟩ S13 C11 C12
  have C14 := ok__law_near_names (P := P) (w := w) (base := base) B S14 
  have C15 := ok__law_exact (P := P) (w := w) (base := base) B S15 
  have C16 := ok_Matrix_places (P := P) (w := w) (base := base) B mc_Matrix' cl_Matrix ⟨a16, i16, k16⟩ S16 
  have C17 := ok_need_one_kind (P := P) (w := w) (base := base) B S17 C16
  have C18 := ok__law_kinds (P := P) (w := w) (base := base) B S18 
  have C19 := ok_need_plain (P := P) (w := w) (base := base) B S19 
  have C20 := ok_Matrix_entries (P := P) (w := w) (base := base) B mc_Matrix' cl_Matrix ⟨a20, i20, k20⟩ S20 
  have C21 := ok_row_number (P := P) (w := w) (base := base) B S21 
  have C22 := ok_Matrix_entry (P := P) (w := w) (base := base) B mc_Matrix' cl_Matrix ⟨a22, i22, k22⟩ S22 C21
  have C23 := ok_Matrix_plain_table (P := P) (w := w) (base := base) B mc_Matrix' cl_Matrix ⟨a23, i23, k23⟩ S23 C20
  have C24 := ok__law_asked (P := P) (w := w) (base := base) B S24 C16 C20 C22 C23 C19 C17 C18
  have C25 := ok__law_loose (P := P) (w := w) (base := base) B S25 
  have C26 := ok__law_rows (P := P) (w := w) (base := base) B S26 
  have C27 := ok_Matrix___iter__ (P := P) (w := w) (base := base) B mc_Matrix' a27 i27 j27 cl_Matrix cn_Matrix_names S27 
  have C28 := ok__law_name_right (P := P) (w := w) (base := base) B S28 C27 C24 C15 C25 C26
  have C29 := ok__law_matrix_right (P := P) (w := w) (base := base) B S29 C27 C15 C25 C24 C28
  have C30 := ok__law_cell (P := P) (w := w) (base := base) B S30 
  have C31 := ok__law_sign (P := P) (w := w) (base := base) B S31 C2
  have C32 := ok__law_designated (P := P) (w := w) (base := base) B S32 C31
  have C33 := ok__law_left_out (P := P) (w := w) (base := base) B S33 C2
  have C34 := ok__law_other_places (P := P) (w := w) (base := base) B S34 C2
  have C35 := ok__law_one_more (P := P) (w := w) (base := base) B S35 C2
  have C36 := ok__law_near_name (P := P) (w := w) (base := base) B S36 C2
  have C37 := ok__law_renamed (P := P) (w := w) (base := base) B S37 C2 C36
  have C38 := ok__law_changed (P := P) (w := w) (base := base) B S38 C33 C34 C3 C35 C37 C2 C36
  have C39 := ok__law_other (P := P) (w := w) (base := base) B S39 C2 C38 C4
  have C40 := ok__law_unlike (P := P) (w := w) (base := base) B S40 
  have C41 := ok_is_letter (P := P) (w := w) (base := base) B S41 
  exact ok_law B (fun_mk (st := s_law) l42 c42 k42) C30 C0 C2 C5 C32 C13 C29 C39 C40 C24 C15 C14 C41
end G
open PySem PySem.W PyProof.Rows
set_option maxHeartbeats 0 in
theorem PySem.Challenge.cw_anytruths_k02_connectives_and_kinds_holds : PySem.Challenge.rw_anytruths_k02_connectives_and_kinds.Holds := by
  w_on; o_law; k_head; (case hw => w_witness2)
  k_fill
  refine L2.walk_of (l := PySem.Challenge.rw_anytruths_k02_connectives_and_kinds) (n := 63) (k := 11) (x := "script") (CX := fun w => L2N.CX PySem.Challenge.pw_anytruths_k02_connectives_and_kinds w) (sp := fun w => Av.spLaw _) rfl (by decide) rfl ⟨rfl, by decide, by decide⟩ (fun w h Y => PySem.W.kIn_of Y) ?F (fun _ _ a ns hl _ hS => ⟨a, ns, rfl, hS, hl, fun _ => rfl⟩) (fun _ H s e s' h => Av.law_CX H s e s' h)
  case F =>
    intro w mg fa h KX KG hmg
    refine' Av.law_imp (fun ns hl => G.law_holds ns hl) (G.all_mk KX KG hmg ?cA_Matrix ?cg_Matrix ?ch_Matrix ?co_Matrix ?cs_Matrix ?cm_Matrix ?ck_Matrix ?cn_Matrix_size ?cn_Matrix_designated ?cn_Matrix_tables ?cn_Matrix_names ?cn_Matrix_loose ?cn_Matrix__places ?cn_Matrix__entries ?a0 ?l0 ?c0 ?k0 ?a1 ?l1 ?c1 ?k1 ?a2 ?l2 ?c2 ?k2 ?a3 ?l3 ?c3 ?k3 ?a4 ?l4 ?c4 ?k4 ?a5 ?l5 ?c5 ?k5 ?a6 ?l6 ?c6 ?k6 ?a7 ?l7 ?c7 ?k7 ?a8 ?l8 ?c8 ?k8 ?a9 ?l9 ?c9 ?k9 ?a10 ?l10 ?c10 ?k10 ?a11 ?l11 ?c11 ?k11 ?a12 ?l12 ?c12 ?k12 ?a13 ?i13 ?l13 ?c13 ?k13 ?a14 ?l14 ?c14 ?k14 ?a15 ?l15 ?c15 ?k15 ?a16 ?i16 ?l16 ?c16 ?k16 ?a17 ?l17 ?c17 ?k17 ?a18 ?l18 ?c18 ?k18 ?a19 ?l19 ?c19 ?k19 ?a20 ?i20 ?l20 ?c20 ?k20 ?a21 ?l21 ?c21 ?k21 ?a22 ?i22 ?l22 ?c22 ?k22 ?a23 ?i23 ?l23 ?c23 ?k23 ?a24 ?l24 ?c24 ?k24 ?a25 ?l25 ?c25 ?k25 ?a26 ?l26 ?c26 ?k26 ?a27 ?i27 ?j27 ?l27 ?c27 ?k27 ?a28 ?l28 ?c28 ?k28 ?a29 ?l29 ?c29 ?k29 ?a30 ?l30 ?c30 ?k30 ?a31 ?l31 ?c31 ?k31 ?a32 ?l32 ?c32 ?k32 ?a33 ?l33 ?c33 ?k33 ?a34 ?l34 ?c34 ?k34 ?a35 ?l35 ?c35 ?k35 ?a36 ?l36 ?c36 ?k36 ?a37 ?l37 ?c37 ?k37 ?a38 ?l38 ?c38 ?k38 ?a39 ?l39 ?c39 ?k39 ?a40 ?l40 ?c40 ?k40 ?a41 ?l41 ?c41 ?k41 ?a42 ?l42 ?c42 ?k42 ?da_AnytruthsError ?db_AnytruthsError ?dc_AnytruthsError ?dt_AnytruthsError ?da_BadClaim ?db_BadClaim ?dc_BadClaim ?dt_BadClaim ?da_BadFormula ?db_BadFormula ?dc_BadFormula ?dt_BadFormula ?da_BadMatrix ?db_BadMatrix ?dc_BadMatrix ?dt_BadMatrix ?da_BadText ?db_BadText ?dc_BadText ?dt_BadText ?da_NoConnective ?db_NoConnective ?dc_NoConnective ?dt_NoConnective ?da_NoStep ?db_NoStep ?dc_NoStep ?dt_NoStep ?da_NotPlain ?db_NotPlain ?dc_NotPlain ?dt_NotPlain ?da_TooMany ?db_TooMany ?dc_TooMany ?dt_TooMany ?da_Unlike ?db_Unlike ?dc_Unlike ?dt_Unlike ?da_Unseparated ?db_Unseparated ?dc_Unseparated ?dt_Unseparated ?eV ?eSt ?eT ?ec1 ?ec2 ?ex_BadMatrix ?er_BadMatrix ?es_BadMatrix ?eg_BadMatrix ?eh_BadMatrix ?en_BadMatrix ?ei_BadMatrix ?et_BadMatrix ?ek_BadMatrix ?ev_BadMatrix ?em_BadMatrix ?ed_BadMatrix ?ep_BadMatrix ?ef_BadMatrix ?eq1_BadMatrix ?ee_BadMatrix ?el_BadMatrix ?eu_BadMatrix ?eu7_BadMatrix ?eu8_BadMatrix ?eb_BadMatrix ?eo1_BadMatrix ?eo2_BadMatrix ?ez_BadMatrix_AnytruthsError ?ez_BadMatrix_BadClaim ?ez_BadMatrix_BadFormula ?ez_BadMatrix_BadMatrix ?ez_BadMatrix_BadText ?ez_BadMatrix_NoConnective ?ez_BadMatrix_NoStep ?ez_BadMatrix_NotPlain ?ez_BadMatrix_TooMany ?ez_BadMatrix_Unlike ?ez_BadMatrix_Unseparated ?ex_NoConnective ?er_NoConnective ?es_NoConnective ?eg_NoConnective ?eh_NoConnective ?en_NoConnective ?ei_NoConnective ?et_NoConnective ?ek_NoConnective ?ev_NoConnective ?em_NoConnective ?ed_NoConnective ?ep_NoConnective ?ef_NoConnective ?eq1_NoConnective ?ee_NoConnective ?el_NoConnective ?eu_NoConnective ?eu7_NoConnective ?eu8_NoConnective ?eb_NoConnective ?eo1_NoConnective ?eo2_NoConnective ?ez_NoConnective_AnytruthsError ?ez_NoConnective_BadClaim ?ez_NoConnective_BadFormula ?ez_NoConnective_BadMatrix ?ez_NoConnective_BadText ?ez_NoConnective_NoConnective ?ez_NoConnective_NoStep ?ez_NoConnective_NotPlain ?ez_NoConnective_TooMany ?ez_NoConnective_Unlike ?ez_NoConnective_Unseparated ?ex_NotPlain ?er_NotPlain ?es_NotPlain ?eg_NotPlain ?eh_NotPlain ?en_NotPlain ?ei_NotPlain ?et_NotPlain ?ek_NotPlain ?ev_NotPlain ?em_NotPlain ?ed_NotPlain ?ep_NotPlain ?ef_NotPlain ?eq1_NotPlain ?ee_NotPlain ?el_NotPlain ?eu_NotPlain ?eu7_NotPlain ?eu8_NotPlain ?eb_NotPlain ?eo1_NotPlain ?eo2_NotPlain ?ez_NotPlain_AnytruthsError ?ez_NotPlain_BadClaim ?ez_NotPlain_BadFormula ?ez_NotPlain_BadMatrix ?ez_NotPlain_BadText ?ez_NotPlain_NoConnective ?ez_NotPlain_NoStep ?ez_NotPlain_NotPlain ?ez_NotPlain_TooMany ?ez_NotPlain_Unlike ?ez_NotPlain_Unseparated ?ex_Unlike ?er_Unlike ?es_Unlike ?eg_Unlike ?eh_Unlike ?en_Unlike ?ei_Unlike ?et_Unlike ?ek_Unlike ?ev_Unlike ?em_Unlike ?ed_Unlike ?ep_Unlike ?ef_Unlike ?eq1_Unlike ?ee_Unlike ?el_Unlike ?eu_Unlike ?eu7_Unlike ?eu8_Unlike ?eb_Unlike ?eo1_Unlike ?eo2_Unlike ?ez_Unlike_AnytruthsError ?ez_Unlike_BadClaim ?ez_Unlike_BadFormula ?ez_Unlike_BadMatrix ?ez_Unlike_BadText ?ez_Unlike_NoConnective ?ez_Unlike_NoStep ?ez_Unlike_NotPlain ?ez_Unlike_TooMany ?ez_Unlike_Unlike ?ez_Unlike_Unseparated ?g_GREATEST_SIZE ?g_LEAST_SIZE ?g_PLACE_LIMIT ?g_ROW_LIMIT ?g_TABLE_LIMIT ?z_ValueError ?z_abs ?z_bool ?z_int ?z_isinstance ?z_iter ?z_len ?z_list ?z_min ?z_range ?z_set ?z_sorted ?z_str ?z_super ?z_tuple)
    (case cA_Matrix => k_is)
    (case cg_Matrix => k_is)
    (case ch_Matrix => k_is)
    (case co_Matrix => k_is)
    (case cs_Matrix => k_is)
    (case cm_Matrix => k_is)
    (case ck_Matrix => k_is)
    (case cn_Matrix_size => k_is)
    (case cn_Matrix_designated => k_is)
    (case cn_Matrix_tables => k_is)
    (case cn_Matrix_names => k_is)
    (case cn_Matrix_loose => k_is)
    (case cn_Matrix__places => k_is)
    (case cn_Matrix__entries => k_is)
    (case a0 => k_is)
    (case l0 => k_is)
    (case c0 => k_is)
    (case k0 => k_is)
    (case a1 => k_is)
    (case l1 => k_is)
    (case c1 => k_is)
    (case k1 => k_is)
    (case a2 => k_is)
    (case l2 => k_is)
    (case c2 => k_is)
    (case k2 => k_is)
    (case a3 => k_is)
    (case l3 => k_is)
    (case c3 => k_is)
    (case k3 => k_is)
    (case a4 => k_is)
    (case l4 => k_is)
    (case c4 => k_is)
    (case k4 => k_is)
    (case a5 => k_is)
    (case l5 => k_is)
    (case c5 => k_is)
    (case k5 => k_is)
    (case a6 => k_is)
    (case l6 => k_is)
    (case c6 => k_is)
    (case k6 => k_is)
    (case a7 => k_is)
    (case l7 => k_is)
    (case c7 => k_is)
    (case k7 => k_is)
    (case a8 => k_is)
    (case l8 => k_is)
    (case c8 => k_is)
    (case k8 => k_is)
    (case a9 => k_is)
    (case l9 => k_is)
    (case c9 => k_is)
    (case k9 => k_is)
    (case a10 => k_is)
    (case l10 => k_is)
    (case c10 => k_is)
    (case k10 => k_is)
    (case a11 => k_is)
    (case l11 => k_is)
    (case c11 => k_is)
    (case k11 => k_is)
    (case a12 => k_is)
    (case l12 => k_is)
    (case c12 => k_is)
    (case k12 => k_is)
    (case a13 => k_is)
    (case i13 => k_is)
    (case l13 => k_is)
    (case c13 => k_is)
    (case k13 => k_is)
    (case a14 => k_is)
    (case l14 => k_is)
    (case c14 => k_is)
    (case k14 => k_is)
    (case a15 => k_is)
    (case l15 => k_is)
    (case c15 => k_is)
    (case k15 => k_is)
    (case a16 => k_is)
    (case i16 => k_is)
    (case l16 => k_is)
    (case c16 => k_is)
    (case k16 => k_is)
    (case a17 => k_is)
    (case l17 => k_is)
    (case c17 => k_is)
    (case k17 => k_is)
    (case a18 => k_is)
    (case l18 => k_is)
    (case c18 => k_is)
    (case k18 => k_is)
    (case a19 => k_is)
    (case l19 => k_is)
    (case c19 => k_is)
    (case k19 => k_is)
    (case a20 => k_is)
    (case i20 => k_is)
    (case l20 => k_is)
    (case c20 => k_is)
    (case k20 => k_is)
    (case a21 => k_is)
    (case l21 => k_is)
    (case c21 => k_is)
    (case k21 => k_is)
    (case a22 => k_is)
    (case i22 => k_is)
    (case l22 => k_is)
    (case c22 => k_is)
    (case k22 => k_is)
    (case a23 => k_is)
    (case i23 => k_is)
    (case l23 => k_is)
    (case c23 => k_is)
    (case k23 => k_is)
    (case a24 => k_is)
    (case l24 => k_is)
    (case c24 => k_is)
    (case k24 => k_is)
    (case a25 => k_is)
    (case l25 => k_is)
    (case c25 => k_is)
    (case k25 => k_is)
    (case a26 => k_is)
    (case l26 => k_is)
    (case c26 => k_is)
    (case k26 => k_is)
    (case a27 => k_is)
    (case i27 => k_is)
    (case j27 => k_is)
    (case l27 => k_is)
    (case c27 => k_is)
    (case k27 => k_is)
    (case a28 => k_is)
    (case l28 => k_is)
    (case c28 => k_is)
    (case k28 => k_is)
    (case a29 => k_is)
    (case l29 => k_is)
    (case c29 => k_is)
    (case k29 => k_is)
    (case a30 => k_is)
    (case l30 => k_is)
    (case c30 => k_is)
    (case k30 => k_is)
    (case a31 => k_is)
    (case l31 => k_is)
    (case c31 => k_is)
    (case k31 => k_is)
    (case a32 => k_is)
    (case l32 => k_is)
    (case c32 => k_is)
    (case k32 => k_is)
    (case a33 => k_is)
    (case l33 => k_is)
    (case c33 => k_is)
    (case k33 => k_is)
    (case a34 => k_is)
    (case l34 => k_is)
    (case c34 => k_is)
    (case k34 => k_is)
    (case a35 => k_is)
    (case l35 => k_is)
    (case c35 => k_is)
    (case k35 => k_is)
    (case a36 => k_is)
    (case l36 => k_is)
    (case c36 => k_is)
    (case k36 => k_is)
    (case a37 => k_is)
    (case l37 => k_is)
    (case c37 => k_is)
    (case k37 => k_is)
    (case a38 => k_is)
    (case l38 => k_is)
    (case c38 => k_is)
    (case k38 => k_is)
    (case a39 => k_is)
    (case l39 => k_is)
    (case c39 => k_is)
    (case k39 => k_is)
    (case a40 => k_is)
    (case l40 => k_is)
    (case c40 => k_is)
    (case k40 => k_is)
    (case a41 => k_is)
    (case l41 => k_is)
    (case c41 => k_is)
    (case k41 => k_is)
    (case a42 => k_is)
    (case l42 => k_is)
    (case c42 => k_is)
    (case k42 => k_is)
    (case da_AnytruthsError => k_is)
    (case db_AnytruthsError => k_is)
    (case dc_AnytruthsError => k_is)
    (case dt_AnytruthsError => k_is)
    (case da_BadClaim => k_is)
    (case db_BadClaim => k_is)
    (case dc_BadClaim => k_is)
    (case dt_BadClaim => k_is)
    (case da_BadFormula => k_is)
    (case db_BadFormula => k_is)
    (case dc_BadFormula => k_is)
    (case dt_BadFormula => k_is)
    (case da_BadMatrix => k_is)
    (case db_BadMatrix => k_is)
    (case dc_BadMatrix => k_is)
    (case dt_BadMatrix => k_is)
    (case da_BadText => k_is)
    (case db_BadText => k_is)
    (case dc_BadText => k_is)
    (case dt_BadText => k_is)
    (case da_NoConnective => k_is)
    (case db_NoConnective => k_is)
    (case dc_NoConnective => k_is)
    (case dt_NoConnective => k_is)
    (case da_NoStep => k_is)
    (case db_NoStep => k_is)
    (case dc_NoStep => k_is)
    (case dt_NoStep => k_is)
    (case da_NotPlain => k_is)
    (case db_NotPlain => k_is)
    (case dc_NotPlain => k_is)
    (case dt_NotPlain => k_is)
    (case da_TooMany => k_is)
    (case db_TooMany => k_is)
    (case dc_TooMany => k_is)
    (case dt_TooMany => k_is)
    (case da_Unlike => k_is)
    (case db_Unlike => k_is)
    (case dc_Unlike => k_is)
    (case dt_Unlike => k_is)
    (case da_Unseparated => k_is)
    (case db_Unseparated => k_is)
    (case dc_Unseparated => k_is)
    (case dt_Unseparated => k_is)
    (case eV => k_is)
    (case eSt => k_is)
    (case eT => rfl)
    (case ec1 => k_is)
    (case ec2 => k_is)
    (case ex_BadMatrix => k_is)
    (case er_BadMatrix => decide +kernel)
    (case es_BadMatrix => k_is)
    (case eg_BadMatrix => k_is)
    (case eh_BadMatrix => k_is)
    (case en_BadMatrix => k_is)
    (case ei_BadMatrix => k_is)
    (case et_BadMatrix => k_is)
    (case ek_BadMatrix => k_is)
    (case ev_BadMatrix => k_is)
    (case em_BadMatrix => k_is)
    (case ed_BadMatrix => k_is)
    (case ep_BadMatrix => rfl)
    (case ef_BadMatrix => k_is)
    (case eq1_BadMatrix => k_is)
    (case ee_BadMatrix => exact fun env => ⟨_, rfl⟩)
    (case el_BadMatrix => k_is)
    (case eu_BadMatrix => k_is)
    (case eu7_BadMatrix => rfl)
    (case eu8_BadMatrix => rfl)
    (case eb_BadMatrix => (unfold Av.EBind; intros; rfl))
    (case eo1_BadMatrix => k_is)
    (case eo2_BadMatrix => k_is)
    (case ez_BadMatrix_AnytruthsError => k_is)
    (case ez_BadMatrix_BadClaim => k_is)
    (case ez_BadMatrix_BadFormula => k_is)
    (case ez_BadMatrix_BadMatrix => k_is)
    (case ez_BadMatrix_BadText => k_is)
    (case ez_BadMatrix_NoConnective => k_is)
    (case ez_BadMatrix_NoStep => k_is)
    (case ez_BadMatrix_NotPlain => k_is)
    (case ez_BadMatrix_TooMany => k_is)
    (case ez_BadMatrix_Unlike => k_is)
    (case ez_BadMatrix_Unseparated => k_is)
    (case ex_NoConnective => k_is)
    (case er_NoConnective => decide +kernel)
    (case es_NoConnective => k_is)
    (case eg_NoConnective => k_is)
    (case eh_NoConnective => k_is)
    (case en_NoConnective => k_is)
    (case ei_NoConnective => k_is)
    (case et_NoConnective => k_is)
    (case ek_NoConnective => k_is)
    (case ev_NoConnective => k_is)
    (case em_NoConnective => k_is)
    (case ed_NoConnective => k_is)
    (case ep_NoConnective => rfl)
    (case ef_NoConnective => k_is)
    (case eq1_NoConnective => k_is)
    (case ee_NoConnective => exact fun env => ⟨_, rfl⟩)
    (case el_NoConnective => k_is)
    (case eu_NoConnective => k_is)
    (case eu7_NoConnective => rfl)
    (case eu8_NoConnective => rfl)
    (case eb_NoConnective => (unfold Av.EBind; intros; rfl))
    (case eo1_NoConnective => k_is)
    (case eo2_NoConnective => k_is)
    (case ez_NoConnective_AnytruthsError => k_is)
    (case ez_NoConnective_BadClaim => k_is)
    (case ez_NoConnective_BadFormula => k_is)
    (case ez_NoConnective_BadMatrix => k_is)
    (case ez_NoConnective_BadText => k_is)
    (case ez_NoConnective_NoConnective => k_is)
    (case ez_NoConnective_NoStep => k_is)
    (case ez_NoConnective_NotPlain => k_is)
    (case ez_NoConnective_TooMany => k_is)
    (case ez_NoConnective_Unlike => k_is)
    (case ez_NoConnective_Unseparated => k_is)
    (case ex_NotPlain => k_is)
    (case er_NotPlain => decide +kernel)
    (case es_NotPlain => k_is)
    (case eg_NotPlain => k_is)
    (case eh_NotPlain => k_is)
    (case en_NotPlain => k_is)
    (case ei_NotPlain => k_is)
    (case et_NotPlain => k_is)
    (case ek_NotPlain => k_is)
    (case ev_NotPlain => k_is)
    (case em_NotPlain => k_is)
    (case ed_NotPlain => k_is)
    (case ep_NotPlain => rfl)
    (case ef_NotPlain => k_is)
    (case eq1_NotPlain => k_is)
    (case ee_NotPlain => exact fun env => ⟨_, rfl⟩)
    (case el_NotPlain => k_is)
    (case eu_NotPlain => k_is)
    (case eu7_NotPlain => rfl)
    (case eu8_NotPlain => rfl)
    (case eb_NotPlain => (unfold Av.EBind; intros; rfl))
    (case eo1_NotPlain => k_is)
    (case eo2_NotPlain => k_is)
    (case ez_NotPlain_AnytruthsError => k_is)
    (case ez_NotPlain_BadClaim => k_is)
    (case ez_NotPlain_BadFormula => k_is)
    (case ez_NotPlain_BadMatrix => k_is)
    (case ez_NotPlain_BadText => k_is)
    (case ez_NotPlain_NoConnective => k_is)
    (case ez_NotPlain_NoStep => k_is)
    (case ez_NotPlain_NotPlain => k_is)
    (case ez_NotPlain_TooMany => k_is)
    (case ez_NotPlain_Unlike => k_is)
    (case ez_NotPlain_Unseparated => k_is)
    (case ex_Unlike => k_is)
    (case er_Unlike => decide +kernel)
    (case es_Unlike => k_is)
    (case eg_Unlike => k_is)
    (case eh_Unlike => k_is)
    (case en_Unlike => k_is)
    (case ei_Unlike => k_is)
    (case et_Unlike => k_is)
    (case ek_Unlike => k_is)
    (case ev_Unlike => k_is)
    (case em_Unlike => k_is)
    (case ed_Unlike => k_is)
    (case ep_Unlike => rfl)
    (case ef_Unlike => k_is)
    (case eq1_Unlike => k_is)
    (case ee_Unlike => exact fun env => ⟨_, rfl⟩)
    (case el_Unlike => k_is)
    (case eu_Unlike => k_is)
    (case eu7_Unlike => rfl)
    (case eu8_Unlike => rfl)
    (case eb_Unlike => (unfold Av.EBind; intros; rfl))
    (case eo1_Unlike => k_is)
    (case eo2_Unlike => k_is)
    (case ez_Unlike_AnytruthsError => k_is)
    (case ez_Unlike_BadClaim => k_is)
    (case ez_Unlike_BadFormula => k_is)
    (case ez_Unlike_BadMatrix => k_is)
    (case ez_Unlike_BadText => k_is)
    (case ez_Unlike_NoConnective => k_is)
    (case ez_Unlike_NoStep => k_is)
    (case ez_Unlike_NotPlain => k_is)
    (case ez_Unlike_TooMany => k_is)
    (case ez_Unlike_Unlike => k_is)
    (case ez_Unlike_Unseparated => k_is)
    (case g_GREATEST_SIZE => k_is)
    (case g_LEAST_SIZE => k_is)
    (case g_PLACE_LIMIT => k_is)
    (case g_ROW_LIMIT => k_is)
    (case g_TABLE_LIMIT => k_is)
    (case z_ValueError => k_is)
    (case z_abs => k_is)
    (case z_bool => k_is)
    (case z_int => k_is)
    (case z_isinstance => k_is)
    (case z_iter => k_is)
    (case z_len => k_is)
    (case z_list => k_is)
    (case z_min => k_is)
    (case z_range => k_is)
    (case z_set => k_is)
    (case z_sorted => k_is)
    (case z_str => k_is)
    (case z_super => k_is)
    (case z_tuple => k_is)
