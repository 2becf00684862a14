import PyProof.Rows.All
import Wide.All
import OpenK.AllK
import Wide.FinOn
import HandS.ForMost
import HandS.ForExc
import HandS.IsInst
import HandS.TupAny
import HandS.Walk
import HandS.Conv
import HandS.TupMul
import KE.GoesEnum
import KE.GoesMore
import HandS.CallSlots
import HandS.Ends
import HandS.Set
import HandS.SetFor
import PyProof.Rows.SortShellAny
import HandS.Strs
import HandS.Text
import PySem.Challenge.RW_envrows_k06_whole_written_forms_there_an
set_option Elab.async false
set_option linter.all false
set_option maxRecDepth 100000
/-! Al: an abstract layer over HandS: values by content (tuples by value, lists, dicts and instances by their number in a store), and for each construct the function that it computes. -/
namespace Al
open PySem PySem.Spec PyProof.Rows L2

/-! ### values and stores -/
abbrev St := L2.St
inductive D where
  | non | bl (b : Bool) | int (i : Int) | str (x : List Nat) | tup (ds : List D) | ref (n : Nat)
  /-- a list from outside that nobody changes (the script) -/
  | scl (ds : List D)
  deriving Inhabited

/-- a text as its code points -/
def cs (x : String) : List Nat := x.toList.map fun c => c.toNat
abbrev toS (x : List Nat) : Str := ⟨x.toArray⟩

inductive O where
  | lst (xs : List D)
  | dct (kvs : List (List Nat × D))
  | ins (C : Addr) (fs : List (Str × D))
abbrev Store := List O
abbrev Env := List (Option D)

/-- an exception: its class, its fields -/
structure Xc where
  cls : Addr
  fs : List (Str × D)

inductive Res (α : Type) where
  | ok (a : α) (S : Store)
  | exc (x : Xc) (S : Store)
  | stuck

def Res.bind {α β : Type} (r : Res α) (f : α → Store → Res β) : Res β := match r with
  | .ok a S => f a S
  | .exc x S => .exc x S
  | .stuck => .stuck
@[simp] theorem Res.bind_ok {α β : Type} (a : α) (S : Store) (f : α → Store → Res β) : (Res.ok a S).bind f = f a S := rfl
@[simp] theorem Res.bind_exc {α β : Type} (x : Xc) (S : Store) (f : α → Store → Res β) : (Res.exc x S : Res α).bind f = .exc x S := rfl
@[simp] theorem Res.bind_stuck {α β : Type} (f : α → Store → Res β) : (Res.stuck : Res α).bind f = .stuck := rfl
def Res.of {α : Type} (o : Option (α × Store)) : Res α := match o with
  | some p => .ok p.1 p.2
  | none => .stuck

/-! ### how they are held -/
section
variable (K : PySem.W.Frag) (φ : List Addr) (H : Hp)
/-- a list that is never changed -/
def FzL (p : Addr) (vs : List V) : Prop := (∃ o, H p = some (.frz o (.lst vs))) ∨ ∃ (o : Obj) (its : Array Value) (n : Nat), K.lookup p = some o ∧ o.cls = .type "list" ∧ o.dict = none ∧ o.data = .seq its n ∧ its.size ≤ sizeLine ∧ Vals vs its.toList
mutual
def RV : D → V → Prop
  | .non, v => v = .non
  | .bl b, v => v = .bl b
  | .int i, v => v = .int i
  | .str x, v => v = .str (toS x)
  | .tup ds, v => ∃ p vs, v = .ref p ∧ SqT K H p vs ∧ RVs ds vs
  | .ref n, v => ∃ p, v = .ref p ∧ φ[n]? = some p
  | .scl ds, v => ∃ p vs, v = .ref p ∧ FzL K H p vs ∧ RVs ds vs
def RVs : List D → List V → Prop
  | [], vs => vs = []
  | d :: ds, vs => ∃ v r, vs = v :: r ∧ RV d v ∧ RVs ds r
end
def RK (p : List Nat × D) (q : Key × V) : Prop := q.1 = .inr (toS p.1) ∧ RV K φ H p.2 q.2
def RKs : List (List Nat × D) → List (Key × V) → Prop
  | [], q => q = []
  | p :: ps, q => ∃ x r, q = x :: r ∧ RK K φ H p x ∧ RKs ps r
def RFs : List (Str × D) → List (Str × V) → Prop
  | [], q => q = []
  | p :: ps, q => ∃ v r, q = (p.1, v) :: r ∧ RV K φ H p.2 v ∧ RFs ps r
def RO (p : Addr) : O → Prop
  | .lst xs => ∃ vs, H p = some (.lst vs) ∧ RVs K φ H xs vs
  | .dct kvs => ∃ vs, H p = some (.dK vs) ∧ RKs K φ H kvs vs
  | .ins C fs => ∃ dx vs, H p = some (.ins C dx vs) ∧ H dx = some (.own p) ∧ RFs K φ H fs vs
structure RH (S : Store) : Prop where
  len : φ.length = S.length
  nd : φ.Nodup
  at_ : ∀ (i : Nat) (o : O) (p : Addr), S[i]? = some o → φ[i]? = some p → RO K φ H p o
/-- slots -/
def RL (σ : St) (ρ : Env) : Prop := σ.length = ρ.length ∧ ∀ (i : Nat) (d : D), ρ[i]? = some (some d) → ∃ v, σ[i]? = some (some v) ∧ RV K φ H d v
def RX (x : Xc) (cv : Value) (dx : Option Addr) : Prop := cv = .ref x.cls ∧ ∃ a vs, dx = some a ∧ H a = some (.xd vs) ∧ RFs K φ H x.fs vs
end
/-- what stays: the numbers, the tuples -/
structure Ext (K : PySem.W.Frag) (φ : List Addr) (H : Hp) (φ' : List Addr) (H' : Hp) : Prop where
  pre : φ <+: φ'
  sq : ∀ p xs, SqT K H p xs → SqT K H' p xs
  fz : ∀ p xs, FzL K H p xs → FzL K H' p xs
section
variable {K : PySem.W.Frag} {φ φ1 φ2 : List Addr} {H H1 H2 : Hp}
theorem FzL.sq {p : Addr} {vs : List V} (h : FzL K H p vs) : SqL K H p vs := by
  rcases h with ⟨o, h⟩ | h
  · exact .inl (.inr ⟨o, h⟩)
  · exact .inr h
theorem Ext.refl : Ext K φ H φ H := ⟨List.prefix_refl _, fun _ _ h => h, fun _ _ h => h⟩
theorem Ext.trans (a : Ext K φ H φ1 H1) (b : Ext K φ1 H1 φ2 H2) : Ext K φ H φ2 H2 := ⟨a.pre.trans b.pre, fun p xs h => b.sq p xs (a.sq p xs h), fun p xs h => b.fz p xs (a.fz p xs h)⟩
theorem pre_get {α : Type} {l l' : List α} (h : l <+: l') {i : Nat} {x : α} (e : l[i]? = some x) : l'[i]? = some x := by
  obtain ⟨t, rfl⟩ := h
  rw [List.getElem?_append_left]
  · exact e
  · exact (List.getElem?_eq_some_iff.mp e).1
mutual
theorem RV.ext (x : Ext K φ H φ1 H1) : ∀ {d : D} {v : V}, RV K φ H d v → RV K φ1 H1 d v
  | .non, v, h => by unfold RV at h ⊢; exact h
  | .bl b, v, h => by unfold RV at h ⊢; exact h
  | .int i, v, h => by unfold RV at h ⊢; exact h
  | .str s, v, h => by unfold RV at h ⊢; exact h
  | .tup ds, v, h => by
    unfold RV at h ⊢
    obtain ⟨p, vs, e, q, r⟩ := h
    exact ⟨p, vs, e, x.sq p vs q, RVs.ext x r⟩
  | .ref n, v, h => by
    unfold RV at h ⊢
    obtain ⟨p, e, q⟩ := h
    exact ⟨p, e, pre_get x.pre q⟩
  | .scl ds, v, h => by
    unfold RV at h ⊢
    obtain ⟨p, vs, e, q, r⟩ := h
    exact ⟨p, vs, e, x.fz p vs q, RVs.ext x r⟩
theorem RVs.ext (x : Ext K φ H φ1 H1) : ∀ {ds : List D} {vs : List V}, RVs K φ H ds vs → RVs K φ1 H1 ds vs
  | [], vs, h => by unfold RVs at h ⊢; exact h
  | d :: ds, vs, h => by
    unfold RVs at h ⊢
    obtain ⟨v, r, e, h1, h2⟩ := h
    exact ⟨v, r, e, RV.ext x h1, RVs.ext x h2⟩
end
theorem RKs.ext (x : Ext K φ H φ1 H1) : ∀ {ds : List (List Nat × D)} {vs : List (Key × V)}, RKs K φ H ds vs → RKs K φ1 H1 ds vs
  | [], vs, h => h
  | d :: ds, vs, h => by
    obtain ⟨v, r, e, ⟨h0, h1⟩, h2⟩ := h
    exact ⟨v, r, e, ⟨h0, h1.ext x⟩, RKs.ext x h2⟩
theorem RFs.ext (x : Ext K φ H φ1 H1) : ∀ {ds : List (Str × D)} {vs : List (Str × V)}, RFs K φ H ds vs → RFs K φ1 H1 ds vs
  | [], vs, h => h
  | d :: ds, vs, h => by
    obtain ⟨v, r, e, h1, h2⟩ := h
    exact ⟨v, r, e, h1.ext x, RFs.ext x h2⟩
theorem RL.ext {σ : St} {ρ : Env} (h : RL K φ H σ ρ) (x : Ext K φ H φ1 H1) : RL K φ1 H1 σ ρ := ⟨h.1, fun i d e => by
  obtain ⟨v, e1, r⟩ := h.2 i d e
  exact ⟨v, e1, r.ext x⟩⟩
theorem RX.ext {x : Xc} {cv : Value} {dx : Option Addr} (h : RX K φ H x cv dx) (e : Ext K φ H φ1 H1) (k : ∀ a vs, H a = some (.xd vs) → H1 a = some (.xd vs)) : RX K φ1 H1 x cv dx := by
  obtain ⟨h1, a, vs, h2, h3, h4⟩ := h
  exact ⟨h1, a, vs, h2, k _ _ h3, h4.ext e⟩
/-! ### lists of values -/
theorem RVs.length : ∀ {ds : List D} {vs : List V}, RVs K φ H ds vs → ds.length = vs.length
  | [], vs, h => by unfold RVs at h; rw [h]; rfl
  | d :: ds, vs, h => by
    unfold RVs at h
    obtain ⟨v, r, e, _, h2⟩ := h
    rw [e, List.length_cons, List.length_cons, RVs.length h2]
theorem RVs.get : ∀ {ds : List D} {vs : List V} {i : Nat} {d : D}, RVs K φ H ds vs → ds[i]? = some d → ∃ v, vs[i]? = some v ∧ RV K φ H d v
  | [], vs, i, d, h, e => by simp at e
  | d0 :: ds, vs, 0, d, h, e => by
    unfold RVs at h
    obtain ⟨v, r, e1, h1, _⟩ := h
    simp at e
    subst e e1
    exact ⟨v, rfl, h1⟩
  | d0 :: ds, vs, i + 1, d, h, e => by
    unfold RVs at h
    obtain ⟨v, r, e1, _, h2⟩ := h
    subst e1
    obtain ⟨v', e2, h3⟩ := RVs.get (i := i) h2 (by simpa using e)
    exact ⟨v', by simpa using e2, h3⟩
theorem RVs.nil : RVs K φ H [] [] := by unfold RVs; rfl
theorem RVs.cons {d : D} {ds : List D} {v : V} {vs : List V} (h : RV K φ H d v) (hs : RVs K φ H ds vs) : RVs K φ H (d :: ds) (v :: vs) := by unfold RVs; exact ⟨v, vs, rfl, h, hs⟩
theorem RVs.nil_iff {vs : List V} (h : RVs K φ H [] vs) : vs = [] := by unfold RVs at h; exact h
theorem RVs.cons_iff {d : D} {ds : List D} {vs : List V} (h : RVs K φ H (d :: ds) vs) : ∃ v r, vs = v :: r ∧ RV K φ H d v ∧ RVs K φ H ds r := by unfold RVs at h; exact h
theorem RVs.append : ∀ {ds es : List D} {vs ws : List V}, RVs K φ H ds vs → RVs K φ H es ws → RVs K φ H (ds ++ es) (vs ++ ws)
  | [], es, vs, ws, h, h' => by cases h.nil_iff; exact h'
  | d :: ds, es, vs, ws, h, h' => by
    obtain ⟨v, r, rfl, h1, h2⟩ := h.cons_iff
    exact .cons h1 (RVs.append h2 h')
theorem RVs.set {d : D} {v : V} (hd : RV K φ H d v) : ∀ {ds : List D} {vs : List V} (i : Nat), RVs K φ H ds vs → RVs K φ H (ds.set i d) (vs.set i v)
  | [], vs, i, h => by cases h.nil_iff; simp; exact .nil
  | d0 :: ds, vs, 0, h => by
    obtain ⟨v0, r, rfl, h1, h2⟩ := h.cons_iff
    exact .cons hd h2
  | d0 :: ds, vs, i + 1, h => by
    obtain ⟨v0, r, rfl, h1, h2⟩ := h.cons_iff
    exact .cons h1 (RVs.set hd i h2)
theorem RVs.take : ∀ {ds : List D} {vs : List V} (n : Nat), RVs K φ H ds vs → RVs K φ H (ds.take n) (vs.take n)
  | _, _, 0, _ => by simp; exact .nil
  | [], vs, n + 1, h => by cases h.nil_iff; simp; exact .nil
  | d0 :: ds, vs, n + 1, h => by
    obtain ⟨v0, r, rfl, h1, h2⟩ := h.cons_iff
    exact .cons h1 (RVs.take n h2)
theorem RVs.drop : ∀ {ds : List D} {vs : List V} (n : Nat), RVs K φ H ds vs → RVs K φ H (ds.drop n) (vs.drop n)
  | _, _, 0, h => by simpa using h
  | [], vs, n + 1, h => by cases h.nil_iff; simp; exact .nil
  | d0 :: ds, vs, n + 1, h => by
    obtain ⟨v0, r, rfl, h1, h2⟩ := h.cons_iff
    simpa using RVs.drop n h2
theorem RVs.eraseIdx : ∀ {ds : List D} {vs : List V} (n : Nat), RVs K φ H ds vs → RVs K φ H (ds.eraseIdx n) (vs.eraseIdx n)
  | [], vs, n, h => by cases h.nil_iff; simp; exact .nil
  | d0 :: ds, vs, 0, h => by
    obtain ⟨v0, r, rfl, h1, h2⟩ := h.cons_iff
    simpa using h2
  | d0 :: ds, vs, n + 1, h => by
    obtain ⟨v0, r, rfl, h1, h2⟩ := h.cons_iff
    exact .cons h1 (RVs.eraseIdx n h2)
theorem RVs.dropLast {ds : List D} {vs : List V} (h : RVs K φ H ds vs) : RVs K φ H ds.dropLast vs.dropLast := by
  rw [List.dropLast_eq_take, List.dropLast_eq_take, h.length]
  exact h.take _
theorem RVs.strs : ∀ {xs : List (List Nat)} {vs : List V}, RVs K φ H (xs.map .str) vs → vs = (xs.map toS).map V.str
  | [], vs, h => h.nil_iff
  | x :: xs, vs, h => by
    obtain ⟨v, r, rfl, h1, h2⟩ := h.cons_iff
    unfold RV at h1
    rw [h1, RVs.strs h2]
    rfl
theorem RVs.of_strs : ∀ (xs : List (List Nat)), RVs K φ H (xs.map .str) ((xs.map toS).map V.str)
  | [] => .nil
  | x :: xs => .cons (by unfold RV; rfl) (RVs.of_strs xs)
theorem RVs.bls : ∀ {xs : List Bool} {vs : List V}, RVs K φ H (xs.map .bl) vs → vs = xs.map V.bl
  | [], vs, h => h.nil_iff
  | x :: xs, vs, h => by
    obtain ⟨v, r, rfl, h1, h2⟩ := h.cons_iff
    unfold RV at h1
    rw [h1, RVs.bls h2]
    rfl
theorem RVs.ints : ∀ {xs : List Int} {vs : List V}, RVs K φ H (xs.map .int) vs → vs = xs.map V.int
  | [], vs, h => h.nil_iff
  | x :: xs, vs, h => by
    obtain ⟨v, r, rfl, h1, h2⟩ := h.cons_iff
    unfold RV at h1
    rw [h1, RVs.ints h2]
    rfl
theorem RVs.of_ints : ∀ (xs : List Int), RVs K φ H (xs.map .int) (xs.map V.int)
  | [] => .nil
  | x :: xs => .cons (by unfold RV; rfl) (RVs.of_ints xs)
end

/-! ### tuples under changes of the heap -/
section
variable {K : PySem.W.Frag} {φ : List Addr} {H : Hp} {p : Addr} {o : HO}
theorem sq_upd (h1 : ∀ xs, H p ≠ some (.tup xs)) (h2 : ∀ o u, H p ≠ some (.frz o u)) : ∀ q xs, SqT K H q xs → SqT K (upd H p o) q xs := fun q xs h => by
  rcases h with (h | ⟨ob, h⟩) | h
  · have : q ≠ p := fun e => h1 xs (e ▸ h)
    exact .inl (.inl (by rw [upd_ne this]; exact h))
  · have : q ≠ p := fun e => h2 ob _ (e ▸ h)
    exact .inl (.inr ⟨ob, by rw [upd_ne this]; exact h⟩)
  · exact .inr h
theorem fz_upd (h2 : ∀ o u, H p ≠ some (.frz o u)) : ∀ q xs, FzL K H q xs → FzL K (upd H p o) q xs := fun q xs h => by
  rcases h with ⟨ob, h⟩ | h
  · have : q ≠ p := fun e => h2 ob _ (e ▸ h)
    exact .inl ⟨ob, by rw [upd_ne this]; exact h⟩
  · exact .inr h
theorem sq_new (h : H p = none) : ∀ q xs, SqT K H q xs → SqT K (upd H p o) q xs := sq_upd (fun xs e => by rw [h] at e; cases e) (fun o u e => by rw [h] at e; cases e)
theorem fz_new (h : H p = none) : ∀ q xs, FzL K H q xs → FzL K (upd H p o) q xs := fz_upd (fun o u e => by rw [h] at e; cases e)
theorem Ext.new (h : H p = none) : Ext K φ H φ (upd H p o) := ⟨List.prefix_refl _, sq_new h, fz_new h⟩
theorem Ext.num (h : H p = none) : Ext K φ H (φ ++ [p]) (upd H p o) := ⟨List.prefix_append _ _, sq_new h, fz_new h⟩
/-- not a tuple -/
def Mu (o : Option HO) : Prop := (∀ xs, o ≠ some (.tup xs)) ∧ ∀ b u, o ≠ some (.frz b u)
theorem Ext.wr (m : Mu (H p)) : Ext K φ H φ (upd H p o) := ⟨List.prefix_refl _, sq_upd m.1 m.2, fz_upd m.2⟩
theorem mu_lst {vs : List V} (h : H p = some (.lst vs)) : Mu (H p) := by rw [h]; exact ⟨fun _ e => (by cases e), fun _ _ e => (by cases e)⟩
theorem mu_dK {vs : List (Key × V)} (h : H p = some (.dK vs)) : Mu (H p) := by rw [h]; exact ⟨fun _ e => (by cases e), fun _ _ e => (by cases e)⟩
theorem mu_ins {C dx : Addr} {vs : List (Str × V)} (h : H p = some (.ins C dx vs)) : Mu (H p) := by rw [h]; exact ⟨fun _ e => (by cases e), fun _ _ e => (by cases e)⟩
end
section
variable {K : PySem.W.Frag} {φ : List Addr} {S : Store} {H : Hp} {p : Addr} {o : HO} {x : O}
theorem RO.there (h : RO K φ H p x) : H p ≠ none := by
  cases x with
  | lst xs => obtain ⟨_, e, _⟩ := h; rw [e]; exact fun z => nomatch z
  | dct xs => obtain ⟨_, e, _⟩ := h; rw [e]; exact fun z => nomatch z
  | ins C fs => obtain ⟨_, _, e, _⟩ := h; rw [e]; exact fun z => nomatch z
/-- an object that is not touched -/
theorem RO.ext {φ1 : List Addr} {H1 : Hp} (h : RO K φ H p x) (e : Ext K φ H φ1 H1) (hp : H1 p = H p) (hd : ∀ q, H q = some (.own p) → H1 q = some (.own p)) : RO K φ1 H1 p x := by
  cases x with
  | lst xs => obtain ⟨vs, e1, r⟩ := h; exact ⟨vs, hp.trans e1, r.ext e⟩
  | dct xs => obtain ⟨vs, e1, r⟩ := h; exact ⟨vs, hp.trans e1, r.ext e⟩
  | ins C fs => obtain ⟨dx, vs, e1, e2, r⟩ := h; exact ⟨dx, vs, hp.trans e1, hd _ e2, r.ext e⟩
/-- all tracked objects stay (H grows) -/
theorem RH.grow (h : RH K φ H S) {H1 : Hp} (g : ∀ b u, H b = some u → H1 b = some u) : RH K φ H1 S := by
  have e : Ext K φ H φ H1 := ⟨List.prefix_refl _, fun p xs q => by
    rcases q with (q | ⟨ob, q⟩) | q
    · exact .inl (.inl (g _ _ q))
    · exact .inl (.inr ⟨ob, g _ _ q⟩)
    · exact .inr q, fun p xs q => by
    rcases q with ⟨ob, q⟩ | q
    · exact .inl ⟨ob, g _ _ q⟩
    · exact .inr q⟩
  refine ⟨h.len, h.nd, fun i x p e1 e2 => ?_⟩
  have r := h.at_ i x p e1 e2
  cases q : H p with
  | none => exact absurd q r.there
  | some u => exact r.ext e (by rw [g _ _ q, q]) fun b z => g _ _ z
theorem grow_new (h : H p = none) : ∀ b u, H b = some u → upd H p o b = some u := fun b u e => by rw [upd_ne (ne_of_none e h)]; exact e
theorem RH.new (h : RH K φ H S) (hn : H p = none) : RH K φ (upd H p o) S := h.grow (grow_new hn)
/-- a new object gets a number -/
theorem RH.alloc (h : RH K φ H S) (hn : H p = none) (r : RO K (φ ++ [p]) (upd H p o) p x) : RH K (φ ++ [p]) (upd H p o) (S ++ [x]) := by
  have e : Ext K φ H (φ ++ [p]) (upd H p o) := Ext.num hn
  refine ⟨by simp [h.len], ?_, fun i y q e1 e2 => ?_⟩
  · rw [List.nodup_append]
    refine ⟨h.nd, by simp, fun a ha b hb => ?_⟩
    simp at hb
    subst hb
    rintro rfl
    obtain ⟨i, hi, e1⟩ := List.getElem_of_mem ha
    have hi' : i < S.length := h.len ▸ hi
    exact (h.at_ i S[i] a (List.getElem?_eq_getElem hi') (by rw [List.getElem?_eq_getElem hi, e1])).there hn
  · by_cases hi : i < S.length
    · rw [List.getElem?_append_left hi] at e1
      rw [List.getElem?_append_left (h.len ▸ hi)] at e2
      have r := h.at_ i y q e1 e2
      cases z : H q with
      | none => exact absurd z r.there
      | some u => exact r.ext e (by rw [upd_ne (ne_of_none z hn), z]) fun b hb => by rw [upd_ne (ne_of_none hb hn)]; exact hb
    · rw [List.getElem?_append_right (by omega)] at e1
      rw [List.getElem?_append_right (by have := h.len; omega)] at e2
      have hi2 : i - S.length = 0 := by
        have := (List.getElem?_eq_some_iff.mp e1).1
        simp at this
        omega
      rw [hi2] at e1
      rw [show i - φ.length = 0 by have := h.len; omega] at e2
      simp at e1 e2
      subst e1 e2
      exact r
/-- the object of a number is changed -/
theorem RH.set (h : RH K φ H S) {n : Nat} (hp : φ[n]? = some p) (m : Mu (H p)) (no : ∀ q, H p ≠ some (.own q)) (r : RO K φ (upd H p o) p x) : RH K φ (upd H p o) (S.set n x) := by
  refine ⟨by simp [h.len], h.nd, fun i y q e1 e2 => ?_⟩
  by_cases hi : i = n
  · subst hi
    have hl : i < S.length := h.len ▸ (List.getElem?_eq_some_iff.mp e2).1
    rw [List.getElem?_set_self hl] at e1
    cases e1
    rw [hp] at e2
    cases e2
    exact r
  · rw [List.getElem?_set_ne (Ne.symm hi)] at e1
    have r := h.at_ i y q e1 e2
    have hq : q ≠ p := fun z => by
      subst z
      have h1 := (List.getElem?_eq_some_iff.mp e2)
      have h2 := (List.getElem?_eq_some_iff.mp hp)
      obtain ⟨l1, z1⟩ := h1
      obtain ⟨l2, z2⟩ := h2
      exact hi ((List.getElem_inj h.nd).mp (z1.trans z2.symm))
    exact r.ext (Ext.wr m) (upd_ne hq) fun b hb => by
      have nb : b ≠ p := fun z => no q (by rw [← z]; exact hb)
      rw [upd_ne nb]
      exact hb
end

/-! ### the readings -/
/-- what is wanted at an expression's end -/
def Fin (K : PySem.W.Frag) (W : WX) (φ : List Addr) (H : Hp) (σ : St) (r : Res D) (Q : VK) : Prop := match r with
  | .ok d S' => ∀ φ' H' v, Ext K φ H φ' H' → RH K φ' H' S' → RV K φ' H' d v → Q v H'
  | .exc x S' => ∀ φ' H' cv dx, Ext K φ H φ' H' → RH K φ' H' S' → RX K φ' H' x cv dx → W cv dx σ H'
  | .stuck => False
def tF (K : PySem.W.Frag) (W : WX) (F : Env → Store → Res D) : TE := fun σ H Q => ∃ φ ρ S, RH K φ H S ∧ RL K φ H σ ρ ∧ Fin K W φ H σ (F ρ S) Q
/-- a test -/
def FinT (K : PySem.W.Frag) (W : WX) (φ : List Addr) (H : Hp) (σ : St) (r : Res Bool) (Q : Bool → Hp → Prop) : Prop := match r with
  | .ok b S' => ∀ φ' H', Ext K φ H φ' H' → RH K φ' H' S' → Q b H'
  | .exc x S' => ∀ φ' H' cv dx, Ext K φ H φ' H' → RH K φ' H' S' → RX K φ' H' x cv dx → W cv dx σ H'
  | .stuck => False
def tFT (K : PySem.W.Frag) (W : WX) (F : Env → Store → Res Bool) : TT := fun σ H Q => ∃ φ ρ S, RH K φ H S ∧ RL K φ H σ ρ ∧ FinT K W φ H σ (F ρ S) Q
/-- an argument list -/
def FinA (K : PySem.W.Frag) (W : WX) (φ : List Addr) (H : Hp) (σ : St) (r : Res (List D)) (Q : List V → Hp → Prop) : Prop := match r with
  | .ok ds S' => ∀ φ' H' vs, Ext K φ H φ' H' → RH K φ' H' S' → RVs K φ' H' ds vs → Q vs H'
  | .exc x S' => ∀ φ' H' cv dx, Ext K φ H φ' H' → RH K φ' H' S' → RX K φ' H' x cv dx → W cv dx σ H'
  | .stuck => False
def tFA (K : PySem.W.Frag) (W : WX) (F : Env → Store → Res (List D)) : TA := fun σ H Q => ∃ φ ρ S, RH K φ H S ∧ RL K φ H σ ρ ∧ FinA K W φ H σ (F ρ S) Q
/-- a statement's end -/
inductive Out where
  | nx (ρ : Env) | ret (d : D) | bk (ρ : Env) | ct (ρ : Env)
def FinS (K : PySem.W.Frag) (W : WX) (φ : List Addr) (H : Hp) (r : Res Out) (E : Ends) : Prop := match r with
  | .ok (.nx ρ) S' => ∀ φ' H' σ', Ext K φ H φ' H' → RH K φ' H' S' → RL K φ' H' σ' ρ → E.nx σ' H'
  | .ok (.bk ρ) S' => ∀ φ' H' σ', Ext K φ H φ' H' → RH K φ' H' S' → RL K φ' H' σ' ρ → E.bk σ' H'
  | .ok (.ct ρ) S' => ∀ φ' H' σ', Ext K φ H φ' H' → RH K φ' H' S' → RL K φ' H' σ' ρ → E.ct σ' H'
  | .ok (.ret d) S' => ∀ φ' H' v, Ext K φ H φ' H' → RH K φ' H' S' → RV K φ' H' d v → E.rt v H'
  | .exc x S' => ∀ φ' H' cv dx σ', Ext K φ H φ' H' → RH K φ' H' S' → RX K φ' H' x cv dx → W cv dx σ' H'
  | .stuck => False
def tFS (K : PySem.W.Frag) (W : WX) (F : Env → Store → Res Out) : TS := fun E σ H => ∃ φ ρ S, RH K φ H S ∧ RL K φ H σ ρ ∧ FinS K W φ H (F ρ S) E

abbrev EF := Env → Store → Res D
abbrev TF := Env → Store → Res Bool
abbrev AF := Env → Store → Res (List D)
abbrev SF := Env → Store → Res Out
/-! the judgements -/
def AE (X : Cx) (W : WX) (e : Expr) (F : EF) : Prop := PE X e (tF X.K W F)
def AT (X : Cx) (W : WX) (e : Expr) (F : TF) : Prop := PT X e (tFT X.K W F)
def AW (X : Cx) (W : WX) (e : Expr) (F : TF) : Prop := PW X e (tFT X.K W F)
def AA (X : Cx) (W : WX) (es : List Expr) (F : AF) : Prop := PA X es (tFA X.K W F)
def AS (X : Cx) (W : WX) (st : Stmt) (F : SF) : Prop := PS X st (tFS X.K W F)
def ASs (X : Cx) (W : WX) (st : List Stmt) (F : SF) : Prop := PSs X st (tFS X.K W F)

section
variable {X : Cx} {e : Expr} {es : List Expr} {st : Stmt} {sts : List Stmt}
theorem pe_mono {t t' : TE} (h : PE X e t) (i : ∀ σ H Q, t' σ H Q → t σ H Q) : PE X e t' := ⟨fun pins s σ H Q I q => h.run pins s σ H Q I (i σ H Q q)⟩
theorem pt_mono {t t' : TT} (h : PT X e t) (i : ∀ σ H Q, t' σ H Q → t σ H Q) : PT X e t' := ⟨fun pins s σ H Q I q => h.run pins s σ H Q I (i σ H Q q)⟩
theorem pw_mono {t t' : TT} (h : PW X e t) (i : ∀ σ H Q, t' σ H Q → t σ H Q) : PW X e t' := ⟨fun wh pins s σ H Q I q => h.run wh pins s σ H Q I (i σ H Q q)⟩
theorem pa_mono {t t' : TA} (h : PA X es t) (i : ∀ σ H Q, t' σ H Q → t σ H Q) : PA X es t' := ⟨fun pos pins s σ H Q I q => h.run pos pins s σ H Q I (i σ H Q q)⟩
theorem ps_mono {t t' : TS} (h : PS X st t) (i : ∀ D σ H, t' D σ H → t D σ H) : PS X st t' := ⟨fun pins s σ H D I q => h.run pins s σ H D I (i D σ H q)⟩
theorem pss_mono {t t' : TS} (h : PSs X sts t) (i : ∀ D σ H, t' D σ H → t D σ H) : PSs X sts t' := ⟨fun pins s σ H D I q => h.run pins s σ H D I (i D σ H q)⟩
end

section
variable {K : PySem.W.Frag} {W : WX} {φ φ1 : List Addr} {H H1 : Hp} {σ : St}
theorem Fin.ext {r : Res D} {Q : VK} (h : Fin K W φ H σ r Q) (e : Ext K φ H φ1 H1) : Fin K W φ1 H1 σ r Q := by
  cases r with
  | ok d S => exact fun φ' H' v x => h φ' H' v (e.trans x)
  | exc x S => exact fun φ' H' cv dx x => h φ' H' cv dx (e.trans x)
  | stuck => exact h
theorem FinT.ext {r : Res Bool} {Q : Bool → Hp → Prop} (h : FinT K W φ H σ r Q) (e : Ext K φ H φ1 H1) : FinT K W φ1 H1 σ r Q := by
  cases r with
  | ok d S => exact fun φ' H' x => h φ' H' (e.trans x)
  | exc x S => exact fun φ' H' cv dx x => h φ' H' cv dx (e.trans x)
  | stuck => exact h
theorem FinA.ext {r : Res (List D)} {Q : List V → Hp → Prop} (h : FinA K W φ H σ r Q) (e : Ext K φ H φ1 H1) : FinA K W φ1 H1 σ r Q := by
  cases r with
  | ok d S => exact fun φ' H' v x => h φ' H' v (e.trans x)
  | exc x S => exact fun φ' H' cv dx x => h φ' H' cv dx (e.trans x)
  | stuck => exact h
theorem FinS.ext {r : Res Out} {E : Ends} (h : FinS K W φ H r E) (e : Ext K φ H φ1 H1) : FinS K W φ1 H1 r E := by
  cases r with
  | ok o S =>
    cases o with
    | nx ρ => exact fun φ' H' σ' x => h φ' H' σ' (e.trans x)
    | ret d => exact fun φ' H' v x => h φ' H' v (e.trans x)
    | bk ρ => exact fun φ' H' σ' x => h φ' H' σ' (e.trans x)
    | ct ρ => exact fun φ' H' σ' x => h φ' H' σ' (e.trans x)
  | exc x S => exact fun φ' H' cv dx σ' x => h φ' H' cv dx σ' (e.trans x)
  | stuck => exact h
theorem Fin.imp {r : Res D} {Q Q' : VK} (h : Fin K W φ H σ r Q) (i : ∀ v H', Q v H' → Q' v H') : Fin K W φ H σ r Q' := by
  cases r with
  | ok d S => exact fun φ' H' v x y z => i _ _ (h φ' H' v x y z)
  | exc x S => exact h
  | stuck => exact h
theorem FinT.imp {r : Res Bool} {Q Q' : Bool → Hp → Prop} (h : FinT K W φ H σ r Q) (i : ∀ v H', Q v H' → Q' v H') : FinT K W φ H σ r Q' := by
  cases r with
  | ok d S => exact fun φ' H' x y => i _ _ (h φ' H' x y)
  | exc x S => exact h
  | stuck => exact h
theorem FinA.imp {r : Res (List D)} {Q Q' : List V → Hp → Prop} (h : FinA K W φ H σ r Q) (i : ∀ v H', Q v H' → Q' v H') : FinA K W φ H σ r Q' := by
  cases r with
  | ok d S => exact fun φ' H' v x y z => i _ _ (h φ' H' v x y z)
  | exc x S => exact h
  | stuck => exact h
/-- what is known behind a part -/
def Aft (K : PySem.W.Frag) (φ : List Addr) (H : Hp) (v : V) (H1 : Hp) (G : List Addr → D → Store → Prop) : Prop := ∃ φ1 S1 d, Ext K φ H φ1 H1 ∧ RH K φ1 H1 S1 ∧ RV K φ1 H1 d v ∧ G φ1 d S1
theorem Fin.bind {r : Res D} {g : D → Store → Res D} {Q : VK} (h : Fin K W φ H σ (r.bind g) Q) : Fin K W φ H σ r fun v H1 => Aft K φ H v H1 fun φ1 d S1 => Fin K W φ1 H1 σ (g d S1) Q := by
  cases r with
  | ok d S => exact fun φ' H' v x y z => ⟨φ', S, d, x, y, z, h.ext x⟩
  | exc x S => exact h
  | stuck => exact h
theorem Fin.bindT {r : Res D} {g : D → Store → Res Bool} {Q : Bool → Hp → Prop} (h : FinT K W φ H σ (r.bind g) Q) : Fin K W φ H σ r fun v H1 => Aft K φ H v H1 fun φ1 d S1 => FinT K W φ1 H1 σ (g d S1) Q := by
  cases r with
  | ok d S => exact fun φ' H' v x y z => ⟨φ', S, d, x, y, z, h.ext x⟩
  | exc x S => exact h
  | stuck => exact h
theorem Fin.bindA {r : Res D} {g : D → Store → Res (List D)} {Q : List V → Hp → Prop} (h : FinA K W φ H σ (r.bind g) Q) : Fin K W φ H σ r fun v H1 => Aft K φ H v H1 fun φ1 d S1 => FinA K W φ1 H1 σ (g d S1) Q := by
  cases r with
  | ok d S => exact fun φ' H' v x y z => ⟨φ', S, d, x, y, z, h.ext x⟩
  | exc x S => exact h
  | stuck => exact h
def AftA (K : PySem.W.Frag) (φ : List Addr) (H : Hp) (vs : List V) (H1 : Hp) (G : List Addr → List D → Store → Prop) : Prop := ∃ φ1 S1 ds, Ext K φ H φ1 H1 ∧ RH K φ1 H1 S1 ∧ RVs K φ1 H1 ds vs ∧ G φ1 ds S1
theorem FinA.bind {r : Res (List D)} {g : List D → Store → Res D} {Q : VK} (h : Fin K W φ H σ (r.bind g) Q) : FinA K W φ H σ r fun v H1 => AftA K φ H v H1 fun φ1 d S1 => Fin K W φ1 H1 σ (g d S1) Q := by
  cases r with
  | ok d S => exact fun φ' H' v x y z => ⟨φ', S, d, x, y, z, h.ext x⟩
  | exc x S => exact h
  | stuck => exact h
theorem FinA.bindA {r : Res (List D)} {g : List D → Store → Res (List D)} {Q : List V → Hp → Prop} (h : FinA K W φ H σ (r.bind g) Q) : FinA K W φ H σ r fun v H1 => AftA K φ H v H1 fun φ1 d S1 => FinA K W φ1 H1 σ (g d S1) Q := by
  cases r with
  | ok d S => exact fun φ' H' v x y z => ⟨φ', S, d, x, y, z, h.ext x⟩
  | exc x S => exact h
  | stuck => exact h
def AftT (K : PySem.W.Frag) (φ : List Addr) (H : Hp) (H1 : Hp) (G : List Addr → Store → Prop) : Prop := ∃ φ1 S1, Ext K φ H φ1 H1 ∧ RH K φ1 H1 S1 ∧ G φ1 S1
theorem FinT.bind {r : Res Bool} {g : Bool → Store → Res D} {Q : VK} (h : Fin K W φ H σ (r.bind g) Q) : FinT K W φ H σ r fun b H1 => AftT K φ H H1 fun φ1 S1 => Fin K W φ1 H1 σ (g b S1) Q := by
  cases r with
  | ok d S => exact fun φ' H' x y => ⟨φ', S, x, y, h.ext x⟩
  | exc x S => exact h
  | stuck => exact h
theorem FinT.bindT {r : Res Bool} {g : Bool → Store → Res Bool} {Q : Bool → Hp → Prop} (h : FinT K W φ H σ (r.bind g) Q) : FinT K W φ H σ r fun b H1 => AftT K φ H H1 fun φ1 S1 => FinT K W φ1 H1 σ (g b S1) Q := by
  cases r with
  | ok d S => exact fun φ' H' x y => ⟨φ', S, x, y, h.ext x⟩
  | exc x S => exact h
  | stuck => exact h
/-- a statement that begins with an expression, with a test -/
theorem Fin.bindS {r : Res D} {g : D → Store → Res Out} {E : Ends} (hW : True) (h : FinS K W φ H (r.bind g) E) : Fin K W φ H σ r fun v H1 => Aft K φ H v H1 fun φ1 d S1 => FinS K W φ1 H1 (g d S1) E := by
  cases r with
  | ok d S => exact fun φ' H' v x y z => ⟨φ', S, d, x, y, z, h.ext x⟩
  | exc x S => exact fun φ' H' cv dx => h φ' H' cv dx σ
  | stuck => exact h
theorem FinT.bindS {r : Res Bool} {g : Bool → Store → Res Out} {E : Ends} (h : FinS K W φ H (r.bind g) E) : FinT K W φ H σ r fun b H1 => AftT K φ H H1 fun φ1 S1 => FinS K W φ1 H1 (g b S1) E := by
  cases r with
  | ok d S => exact fun φ' H' x y => ⟨φ', S, x, y, h.ext x⟩
  | exc x S => exact fun φ' H' cv dx => h φ' H' cv dx σ
  | stuck => exact h
theorem Fin.ok_of {d : D} {S : Store} {Q : VK} {v : V} (h : Fin K W φ H σ (.ok d S) Q) (rh : RH K φ H S) (r : RV K φ H d v) : Q v H := h φ H v .refl rh r
end
end Al

set_option Elab.async false
set_option linter.all false
set_option maxRecDepth 100000
set_option maxHeartbeats 1000000
/-! Al: expressions. -/
namespace Al
open PySem PySem.Spec PyProof.Rows L2
abbrev lim : Nat := 16777216
theorem lim_eq : sizeLine = lim := sizeLine_eq

/-! ### names and constants -/
def eVar (i : Nat) : EF := fun ρ S => match ρ[i]? with
  | some (some d) => .ok d S
  | _ => .stuck
def eC (d : D) : EF := fun _ S => .ok d S
section
variable {X : Cx} {W : WX}
theorem rv_non {K φ H} : RV K φ H .non .non := by unfold RV; rfl
theorem rv_bl {K φ H} {b : Bool} : RV K φ H (.bl b) (.bl b) := by unfold RV; rfl
theorem rv_int {K φ H} {i : Int} : RV K φ H (.int i) (.int i) := by unfold RV; rfl
theorem rv_str {K φ H} {x : List Nat} : RV K φ H (.str x) (.str (toS x)) := by unfold RV; rfl
theorem rv_tup {K φ H} {p : Addr} {ds : List D} {vs : List V} (h : SqT K H p vs) (r : RVs K φ H ds vs) : RV K φ H (.tup ds) (.ref p) := by unfold RV; exact ⟨p, vs, rfl, h, r⟩
theorem rv_ref {K H} {φ : List Addr} {n : Nat} {p : Addr} (h : φ[n]? = some p) : RV K φ H (.ref n) (.ref p) := by unfold RV; exact ⟨p, rfl, h⟩
theorem rv_scl {K φ H} {p : Addr} {ds : List D} {vs : List V} (h : FzL K H p vs) (r : RVs K φ H ds vs) : RV K φ H (.scl ds) (.ref p) := by unfold RV; exact ⟨p, vs, rfl, h, r⟩
theorem RV.scl_ {K φ H} {ds : List D} {v : V} (h : RV K φ H (.scl ds) v) : ∃ p vs, v = .ref p ∧ FzL K H p vs ∧ RVs K φ H ds vs := by unfold RV at h; exact h
theorem RV.non_ {K φ H} {v : V} (h : RV K φ H .non v) : v = .non := by unfold RV at h; exact h
theorem RV.bl_ {K φ H} {b : Bool} {v : V} (h : RV K φ H (.bl b) v) : v = .bl b := by unfold RV at h; exact h
theorem RV.int_ {K φ H} {i : Int} {v : V} (h : RV K φ H (.int i) v) : v = .int i := by unfold RV at h; exact h
theorem RV.str_ {K φ H} {x : List Nat} {v : V} (h : RV K φ H (.str x) v) : v = .str (toS x) := by unfold RV at h; exact h
theorem RV.tup_ {K φ H} {ds : List D} {v : V} (h : RV K φ H (.tup ds) v) : ∃ p vs, v = .ref p ∧ SqT K H p vs ∧ RVs K φ H ds vs := by unfold RV at h; exact h
theorem RV.ref_ {K H} {φ : List Addr} {n : Nat} {v : V} (h : RV K φ H (.ref n) v) : ∃ p, v = .ref p ∧ φ[n]? = some p := by unfold RV at h; exact h
/-- what a number stands for -/
theorem RH.obj {K : PySem.W.Frag} {φ : List Addr} {H : Hp} {S : Store} (h : RH K φ H S) {n : Nat} {o : O} {v : V} (e : S[n]? = some o) (r : RV K φ H (.ref n) v) : ∃ p, v = .ref p ∧ φ[n]? = some p ∧ RO K φ H p o := by
  obtain ⟨p, e1, e2⟩ := r.ref_
  exact ⟨p, e1, e2, h.at_ n o p e e2⟩

theorem ae_var (i : Nat) {x : Str} {pos : Pos} (hN : X.N[i]? = some x := by rfl) (hv : Vis X.env.scope x := by first | exact Or.inl rfl | exact Or.inr (Or.inl rfl) | exact Or.inr (Or.inr rfl)) (hd : (x == ("__debug__" : Str)) = false := by decide)
    (hcd : (x == ("__classdict__" : Str)) = false := by decide) : AE X W (.Name x pos) (eVar i) := by
  refine pe_mono (pe_var hN hv hd hcd) fun σ H Q ⟨φ, ρ, S, rh, rl, f⟩ => ?_
  unfold eVar at f
  split at f
  · rename_i d e
    obtain ⟨v, e1, r⟩ := rl.2 i d e
    exact ⟨v, e1, f.ok_of rh r⟩
  · exact f.elim
theorem ae_int {i : Int} {j pos} : AE X W (.Constant (.int i) j pos) (eC (.int i)) := pe_mono pe_int fun σ H Q ⟨φ, ρ, S, rh, rl, f⟩ => Fin.ok_of f rh rv_int
theorem ae_bl {b : Bool} {j pos} : AE X W (.Constant (.bool b) j pos) (eC (.bl b)) := pe_mono pe_bl fun σ H Q ⟨φ, ρ, S, rh, rl, f⟩ => Fin.ok_of f rh rv_bl
theorem ae_non {j pos} : AE X W (.Constant .none j pos) (eC .non) := pe_mono pe_non fun σ H Q ⟨φ, ρ, S, rh, rl, f⟩ => Fin.ok_of f rh rv_non
theorem ae_str (y : List Nat) {x : Str} {j pos} (h : x = toS y := by rfl) : AE X W (.Constant (.str x) j pos) (eC (.str y)) := by
  subst h
  exact pe_mono pe_str fun σ H Q ⟨φ, ρ, S, rh, rl, f⟩ => Fin.ok_of f rh rv_str
/-- a constant of the module -/
theorem ae_glob (d : D) {x : Str} {v : V} {u : Value} {pos : Pos} (hm : X.mg x = some u) (r : RelV v u) (rv : ∀ φ H, RV X.K φ H d v) (hg : Gl X x := by rfl) (hd : (x == ("__debug__" : Str)) = false := by decide) : AE X W (.Name x pos) (eC d) :=
  pe_mono (pe_glob hg hm r hd) fun σ H Q ⟨φ, ρ, S, rh, rl, f⟩ => Fin.ok_of f rh (rv φ H)

/-! ### two-place operations -/
abbrev F2 := D → D → Store → Option (D × Store)
def OpA (X : Cx) (sem : Value → Value → Sem Value) (f : F2) : Prop :=
  OpR X sem (fun x y H Q => ∃ φ S a b d S', RH X.K φ H S ∧ RV X.K φ H a x ∧ RV X.K φ H b y ∧ f a b S = some (d, S') ∧ ∀ φ' H' v, Ext X.K φ H φ' H' → RH X.K φ' H' S' → RV X.K φ' H' d v → Q v H')
def eOp (f : F2) (a b : EF) : EF := fun ρ S => (a ρ S).bind fun x S1 => (b ρ S1).bind fun y S2 => .of (f x y S2)
theorem OpR.mono {sem : Value → Value → Sem Value} {r r' : R2} (h : OpR X sem r) (i : ∀ x y H Q, r' x y H Q → r x y H Q) : OpR X sem r' :=
  fun pins s σ H x y v u Q I rx ry q => h pins s σ H x y v u Q I rx ry (i x y H Q q)
theorem fin_of {K : PySem.W.Frag} {φ : List Addr} {H : Hp} {σ : St} {o : Option (D × Store)} {Q : VK} (f : Fin K W φ H σ (.of o) Q) : ∃ d S', o = some (d, S') ∧ ∀ φ' H' v, Ext K φ H φ' H' → RH K φ' H' S' → RV K φ' H' d v → Q v H' := by
  cases o with
  | none => exact f.elim
  | some p => exact ⟨p.1, p.2, rfl, f⟩
theorem two_parts {a b : EF} {g : D → D → Store → Res D} {Q : VK} {K : PySem.W.Frag} {σ : St} {H : Hp} (h : tF K W (fun ρ S => (a ρ S).bind fun x S1 => (b ρ S1).bind fun y S2 => g x y S2) σ H Q) :
    tF K W a σ H fun x H1 => tF K W b σ H1 fun y H2 => ∃ φ S dx dy, RH K φ H2 S ∧ RV K φ H2 dx x ∧ RV K φ H2 dy y ∧ Fin K W φ H2 σ (g dx dy S) Q := by
  obtain ⟨φ, ρ, S, rh, rl, f⟩ := h
  refine ⟨φ, ρ, S, rh, rl, f.bind.imp ?_⟩
  rintro v H1 ⟨φ1, S1, d1, e1, rh1, rv1, f1⟩
  refine ⟨φ1, ρ, S1, rh1, rl.ext e1, f1.bind.imp ?_⟩
  rintro y H2 ⟨φ2, S2, d2, e2, rh2, rv2, f2⟩
  exact ⟨φ2, S2, d1, d2, rh2, rv1.ext e2, rv2, f2⟩
theorem tF.imp {K : PySem.W.Frag} {F : EF} {σ : St} {H : Hp} {Q Q' : VK} (h : tF K W F σ H Q) (i : ∀ v H', Q v H' → Q' v H') : tF K W F σ H Q' := by
  obtain ⟨φ, ρ, S, rh, rl, f⟩ := h
  exact ⟨φ, ρ, S, rh, rl, f.imp i⟩
theorem op_run {K : PySem.W.Frag} {f : F2} {a b : EF} {σ : St} {H : Hp} {Q : VK} (h : tF K W (eOp f a b) σ H Q) :
    tOp (fun x y H Q => ∃ φ S a b d S', RH K φ H S ∧ RV K φ H a x ∧ RV K φ H b y ∧ f a b S = some (d, S') ∧ ∀ φ' H' v, Ext K φ H φ' H' → RH K φ' H' S' → RV K φ' H' d v → Q v H') (tF K W a) (tF K W b) σ H Q := by
  refine (two_parts h).imp fun x H1 h1 => h1.imp fun y H2 ⟨φ, S, dx, dy, rh, rx, ry, fi⟩ => ?_
  obtain ⟨d, S', e, k⟩ := fin_of fi
  exact ⟨φ, S, dx, dy, d, S', rh, rx, ry, e, k⟩
variable {a b c : Expr} {Fa Fb Fc : EF} {pos : Pos}
theorem ae_op {op : Operator} {f : F2} (ho : OpA X (binaryOp op) f) (ha : AE X W a Fa) (hb : AE X W b Fb) : AE X W (.BinOp a op b pos) (eOp f Fa Fb) :=
  pe_mono (pe_op ho ha hb) fun σ H Q h => op_run h
theorem ae_cmp {op : CmpOp} {f : F2} (ho : OpA X (compareOp op) f) (ha : AE X W a Fa) (hb : AE X W b Fb) (hm : behindInMarks op b = false := by first | exact nomark _ | rfl) : AE X W (.Compare a [op] [b] pos) (eOp f Fa Fb) :=
  pe_mono (pe_cmpR ho ha hb hm) fun σ H Q h => op_run h
/-- a bool of a value -/
def asB (d : D) (S : Store) : Res Bool := match d with
  | .bl b => .ok b S
  | _ => .stuck
def tOf (F : EF) : TF := fun ρ S => (F ρ S).bind asB
theorem test_run {K : PySem.W.Frag} {F : EF} {σ : St} {H : Hp} {Q : Bool → Hp → Prop} (h : tFT K W (tOf F) σ H Q) : tF K W F σ H fun x H' => ∃ k, x = .bl k ∧ Q k H' := by
  obtain ⟨φ, ρ, S, rh, rl, f⟩ := h
  refine ⟨φ, ρ, S, rh, rl, (Fin.bindT f).imp ?_⟩
  rintro v H1 ⟨φ1, S1, d, e1, rh1, rv1, f1⟩
  cases d with
  | bl b => exact ⟨b, rv1.bl_, f1 φ1 H1 .refl rh1⟩
  | _ => exact f1.elim
theorem at_cmp {op : CmpOp} {f : F2} (ho : OpA X (compareOp op) f) (ha : AE X W a Fa) (hb : AE X W b Fb) (hm : behindInMarks op b = false := by first | exact nomark _ | rfl) : AT X W (.Compare a [op] [b] pos) (tOf (eOp f Fa Fb)) :=
  pt_mono (pt_cmpR ho ha hb hm) fun σ H Q h => op_run (test_run h)
theorem at_val (ha : AE X W a Fa) (he : ∀ whole, isTrue a X.env whole = (do let v ← whole; standAt a.pos; holding [v] (truthy v)) := by intro _; rfl) : AT X W a (tOf Fa) :=
  pt_mono (pt_val ha he) fun σ H Q h => test_run h
/-! chains -/
def eChain (f g : F2) (a b c : EF) : EF := fun ρ S => (a ρ S).bind fun x S1 => (b ρ S1).bind fun y S2 => (Res.of (f x y S2)).bind fun z S3 => match z with
  | .bl true => (c ρ S3).bind fun w S4 => .of (g y w S4)
  | .bl false => .ok (.bl false) S3
  | _ => .stuck
theorem chain_run {K : PySem.W.Frag} {f g : F2} {a b c : EF} {σ : St} {H : Hp} {Q : VK} (h : tF K W (eChain f g a b c) σ H Q) :
    tChain (fun x y H Q => ∃ φ S a b d S', RH K φ H S ∧ RV K φ H a x ∧ RV K φ H b y ∧ f a b S = some (d, S') ∧ ∀ φ' H' v, Ext K φ H φ' H' → RH K φ' H' S' → RV K φ' H' d v → Q v H')
      (fun x y H Q => ∃ φ S a b d S', RH K φ H S ∧ RV K φ H a x ∧ RV K φ H b y ∧ g a b S = some (d, S') ∧ ∀ φ' H' v, Ext K φ H φ' H' → RH K φ' H' S' → RV K φ' H' d v → Q v H') (tF K W a) (tF K W b) (tF K W c) σ H Q := by
  obtain ⟨φ, ρ, S, rh, rl, fi⟩ := h
  refine ⟨φ, ρ, S, rh, rl, fi.bind.imp ?_⟩
  rintro v H1 ⟨φ1, S1, d1, e1, rh1, rv1, f1⟩
  refine ⟨φ1, ρ, S1, rh1, rl.ext e1, f1.bind.imp ?_⟩
  rintro y H2 ⟨φ2, S2, d2, e2, rh2, rv2, f2⟩
  obtain ⟨d3, S3, e3, k3⟩ := fin_of f2.bind
  refine ⟨φ2, S2, d1, d2, d3, S3, rh2, rv1.ext e2, rv2, e3, fun φ3 H3 z x3 rh3 rv3 => ?_⟩
  rw [e3] at f2
  cases d3 with
  | bl k =>
    refine ⟨k, rv3.bl_, ?_⟩
    cases k with
    | true =>
      rw [if_pos rfl]
      have f2' : Fin K W φ2 H2 σ ((c ρ S3).bind fun w S4 => .of (g d2 w S4)) Q := f2
      refine ⟨φ3, ρ, S3, rh3, (rl.ext (e1.trans e2)).ext x3, ((f2'.ext x3).bind).imp ?_⟩
      rintro w H4 ⟨φ4, S4, d4, e4, rh4, rv4, f4⟩
      obtain ⟨d5, S5, e5, k5⟩ := fin_of f4
      exact ⟨φ4, S4, d2, d4, d5, S5, rh4, (rv2.ext x3).ext e4, rv4, e5, k5⟩
    | false =>
      rw [if_neg Bool.false_ne_true]
      exact f2 φ3 H3 _ x3 rh3 rv_bl
  | _ => exact f2.elim
theorem ae_chain {op op' : CmpOp} {f g : F2} (ho : OpA X (compareOp op) f) (ho' : OpA X (compareOp op') g) (ha : AE X W a Fa) (hb : AE X W b Fb) (hc : AE X W c Fc)
    (hm : lastMarks [op, op'] [b, c] = false := by with_unfolding_all rfl) : AE X W (.Compare a [op, op'] [b, c] pos) (eChain f g Fa Fb Fc) :=
  pe_mono (pe_chain ho ho' ha hb hc hm) fun σ H Q h => chain_run h
theorem at_chain {op op' : CmpOp} {f g : F2} (ho : OpA X (compareOp op) f) (ho' : OpA X (compareOp op') g) (ha : AE X W a Fa) (hb : AE X W b Fb) (hc : AE X W c Fc)
    (hm : lastMarks [op, op'] [b, c] = false := by with_unfolding_all rfl) : AT X W (.Compare a [op, op'] [b, c] pos) (tOf (eChain f g Fa Fb Fc)) :=
  pt_mono (pt_chain ho ho' ha hb hc hm) fun σ H Q h => chain_run (test_run h)
end

/-! ### and, or, not, if -/
def tAndF (t u : TF) : TF := fun ρ S => (t ρ S).bind fun b S1 => if b = true then u ρ S1 else .ok false S1
def tOrF (t u : TF) : TF := fun ρ S => (t ρ S).bind fun b S1 => if b = true then .ok true S1 else u ρ S1
def tNotF (t : TF) : TF := fun ρ S => (t ρ S).bind fun b S1 => .ok (!b) S1
def eAnd (a b : EF) : EF := fun ρ S => (a ρ S).bind fun x S1 => match x with
  | .bl true => b ρ S1
  | .bl false => .ok (.bl false) S1
  | _ => .stuck
def eOr (a b : EF) : EF := fun ρ S => (a ρ S).bind fun x S1 => match x with
  | .bl true => .ok (.bl true) S1
  | .bl false => b ρ S1
  | _ => .stuck
def eNot (a : EF) : EF := fun ρ S => (a ρ S).bind fun x S1 => match x with
  | .bl b => .ok (.bl (!b)) S1
  | _ => .stuck
def eIf (t : TF) (a b : EF) : EF := fun ρ S => (t ρ S).bind fun c S1 => if c = true then a ρ S1 else b ρ S1
section
variable {X : Cx} {W : WX} {a b c : Expr} {rest : List Expr} {Ta Tb : TF} {Fa Fb : EF} {pos : Pos}
theorem AW.at (h : AW X W a Ta) : AT X W a Ta := PW.pt h
theorem aw_and1 (ha : AT X W a Ta) : AW X W (.BoolOp .And [a] pos) Ta := pw_and1 ha
theorem aw_or1 (ha : AT X W a Ta) : AW X W (.BoolOp .Or [a] pos) Ta := pw_or1 ha
theorem aw_and (ha : AT X W a Ta) (hb : AW X W (.BoolOp .And (b :: rest) pos) Tb) : AW X W (.BoolOp .And (a :: b :: rest) pos) (tAndF Ta Tb) := by
  refine pw_mono (pw_and ha hb) fun σ H Q ⟨φ, ρ, S, rh, rl, f⟩ => ⟨φ, ρ, S, rh, rl, (FinT.bindT f).imp ?_⟩
  rintro k H1 ⟨φ1, S1, e1, rh1, f1⟩
  cases k with
  | true => rw [if_pos rfl] at f1 ⊢; exact ⟨φ1, ρ, S1, rh1, rl.ext e1, f1⟩
  | false => rw [if_neg Bool.false_ne_true] at f1 ⊢; exact f1 φ1 H1 .refl rh1
theorem aw_or (ha : AT X W a Ta) (hb : AW X W (.BoolOp .Or (b :: rest) pos) Tb) : AW X W (.BoolOp .Or (a :: b :: rest) pos) (tOrF Ta Tb) := by
  refine pw_mono (pw_or ha hb) fun σ H Q ⟨φ, ρ, S, rh, rl, f⟩ => ⟨φ, ρ, S, rh, rl, (FinT.bindT f).imp ?_⟩
  rintro k H1 ⟨φ1, S1, e1, rh1, f1⟩
  cases k with
  | false => rw [if_neg Bool.false_ne_true] at f1 ⊢; exact ⟨φ1, ρ, S1, rh1, rl.ext e1, f1⟩
  | true => rw [if_pos rfl] at f1 ⊢; exact f1 φ1 H1 .refl rh1
theorem at_not (ha : AT X W a Ta) : AT X W (.UnaryOp .Not a pos) (tNotF Ta) := by
  refine pt_mono (pt_not ha) fun σ H Q ⟨φ, ρ, S, rh, rl, f⟩ => ⟨φ, ρ, S, rh, rl, (FinT.bindT f).imp ?_⟩
  rintro k H1 ⟨φ1, S1, e1, rh1, f1⟩
  exact f1 φ1 H1 .refl rh1
theorem ae_and1 (ha : AE X W a Fa) : AE X W (.BoolOp .And [a] pos) Fa := pe_one ha
theorem ae_or1 (ha : AE X W a Fa) : AE X W (.BoolOp .Or [a] pos) Fa := pe_one ha
theorem ae_and (ha : AE X W a Fa) (hb : AE X W (.BoolOp .And (b :: rest) pos) Fb) : AE X W (.BoolOp .And (a :: b :: rest) pos) (eAnd Fa Fb) := by
  refine pe_mono (pe_and ha hb) fun σ H Q ⟨φ, ρ, S, rh, rl, f⟩ => ⟨φ, ρ, S, rh, rl, (Fin.bind f).imp ?_⟩
  rintro v H1 ⟨φ1, S1, d, e1, rh1, rv1, f1⟩
  cases d with
  | bl k =>
    refine ⟨k, rv1.bl_, ?_⟩
    cases k with
    | true => rw [if_pos rfl]; exact ⟨φ1, ρ, S1, rh1, rl.ext e1, f1⟩
    | false => rw [if_neg Bool.false_ne_true]; exact Fin.ok_of f1 rh1 rv_bl
  | _ => exact f1.elim
theorem ae_or (ha : AE X W a Fa) (hb : AE X W (.BoolOp .Or (b :: rest) pos) Fb) : AE X W (.BoolOp .Or (a :: b :: rest) pos) (eOr Fa Fb) := by
  refine pe_mono (pe_or ha hb) fun σ H Q ⟨φ, ρ, S, rh, rl, f⟩ => ⟨φ, ρ, S, rh, rl, (Fin.bind f).imp ?_⟩
  rintro v H1 ⟨φ1, S1, d, e1, rh1, rv1, f1⟩
  cases d with
  | bl k =>
    refine ⟨k, rv1.bl_, ?_⟩
    cases k with
    | true => rw [if_pos rfl]; exact Fin.ok_of f1 rh1 rv_bl
    | false => rw [if_neg Bool.false_ne_true]; exact ⟨φ1, ρ, S1, rh1, rl.ext e1, f1⟩
  | _ => exact f1.elim
theorem ae_not (ha : AE X W a Fa) : AE X W (.UnaryOp .Not a pos) (eNot Fa) := by
  refine pe_mono (pe_not ha) fun σ H Q ⟨φ, ρ, S, rh, rl, f⟩ => ⟨φ, ρ, S, rh, rl, (Fin.bind f).imp ?_⟩
  rintro v H1 ⟨φ1, S1, d, e1, rh1, rv1, f1⟩
  cases d with
  | bl k => exact ⟨k, rv1.bl_, Fin.ok_of f1 rh1 rv_bl⟩
  | _ => exact f1.elim
theorem ae_if {c : Expr} (hc : AT X W c Ta) (ha : AE X W a Fa) (hb : AE X W b Fb) : AE X W (.IfExp c a b pos) (eIf Ta Fa Fb) := by
  refine pe_mono (pe_ifExp hc ha hb) fun σ H Q ⟨φ, ρ, S, rh, rl, f⟩ => ⟨φ, ρ, S, rh, rl, (FinT.bind f).imp ?_⟩
  rintro k H1 ⟨φ1, S1, e1, rh1, f1⟩
  cases k with
  | true => rw [if_pos rfl] at f1 ⊢; exact ⟨φ1, ρ, S1, rh1, rl.ext e1, f1⟩
  | false => rw [if_neg Bool.false_ne_true] at f1 ⊢; exact ⟨φ1, ρ, S1, rh1, rl.ext e1, f1⟩
end

/-! ### argument lists, displays -/
def aNil : AF := fun _ S => .ok [] S
def aCons (a : EF) (r : AF) : AF := fun ρ S => (a ρ S).bind fun x S1 => (r ρ S1).bind fun xs S2 => .ok (x :: xs) S2
def eTup (a : AF) : EF := fun ρ S => (a ρ S).bind fun xs S1 => if xs.length ≤ lim then .ok (.tup xs) S1 else .stuck
def eLst (a : AF) : EF := fun ρ S => (a ρ S).bind fun xs S1 => if xs.length ≤ lim then .ok (.ref S1.length) (S1 ++ [.lst xs]) else .stuck
section
variable {X : Cx} {W : WX} {e : Expr} {es : List Expr} {Fa : EF} {Fr : AF} {pos : Pos}
theorem aa_nil : AA X W [] aNil := pa_mono pa_nil fun σ H Q ⟨φ, ρ, S, rh, rl, f⟩ => f φ H [] .refl rh .nil
theorem aa_cons (ha : AE X W e Fa) (hr : AA X W es Fr) (hs : starEach (e :: es) X.env = (false, eval e X.env) :: starEach es X.env := by rfl) : AA X W (e :: es) (aCons Fa Fr) := by
  refine pa_mono (pa_cons ha hr hs) fun σ H Q ⟨φ, ρ, S, rh, rl, f⟩ => ⟨φ, ρ, S, rh, rl, (Fin.bindA f).imp ?_⟩
  rintro v H1 ⟨φ1, S1, d1, e1, rh1, rv1, f1⟩
  refine ⟨φ1, ρ, S1, rh1, rl.ext e1, f1.bindA.imp ?_⟩
  rintro vs H2 ⟨φ2, S2, ds, e2, rh2, rv2, f2⟩
  exact f2 φ2 H2 _ .refl rh2 (.cons (rv1.ext e2) rv2)
theorem ae_tup {x1} (h : AA X W es Fr) : AE X W (.Tuple es x1 pos) (eTup Fr) := by
  refine pe_mono (pe_tup h) fun σ H Q ⟨φ, ρ, S, rh, rl, f⟩ => ⟨φ, ρ, S, rh, rl, (FinA.bind f).imp ?_⟩
  rintro vs H1 ⟨φ1, S1, ds, e1, rh1, rv1, f1⟩
  split at f1
  · rename_i hl
    refine ⟨by rw [← rv1.length, lim_eq]; exact hl, fun p hp => ?_⟩
    have x := Ext.new (K := X.K) (φ := φ1) (o := HO.tup vs) hp
    exact f1 φ1 _ _ x (rh1.new hp) (rv_tup (.inl (.inl upd_same)) (rv1.ext x))
  · exact f1.elim
theorem ae_lst (h : AA X W es Fr) : AE X W (.List es pos) (eLst Fr) := by
  refine pe_mono (pe_lst h) fun σ H Q ⟨φ, ρ, S, rh, rl, f⟩ => ⟨φ, ρ, S, rh, rl, (FinA.bind f).imp ?_⟩
  rintro vs H1 ⟨φ1, S1, ds, e1, rh1, rv1, f1⟩
  split at f1
  · rename_i hl
    refine ⟨by rw [← rv1.length, lim_eq]; exact hl, fun p hp => ?_⟩
    have x := Ext.num (K := X.K) (φ := φ1) (o := HO.lst vs) hp
    have a := rh1.alloc (x := .lst ds) (o := HO.lst vs) hp ⟨vs, upd_same, rv1.ext x⟩
    exact f1 _ _ _ x a (rv_ref (by rw [← rh1.len]; simp))
  · exact f1.elim
end

/-! ### calls of built-ins -/
abbrev FN := List D → Store → Option (D × Store)
def CallA (X : Cx) (f : Value) (g : FN) : Prop :=
  CallR X f (fun xs H Q => ∃ φ S ds d S', RH X.K φ H S ∧ RVs X.K φ H ds xs ∧ g ds S = some (d, S') ∧ ∀ φ' H' v, Ext X.K φ H φ' H' → RH X.K φ' H' S' → RV X.K φ' H' d v → Q v H')
def eCall (g : FN) (a : AF) : EF := fun ρ S => (a ρ S).bind fun xs S1 => .of (g xs S1)
section
variable {X : Cx} {W : WX} {e : Expr} {es : List Expr} {Fr : AF} {pos p : Pos} {x : Str}
theorem CallR.mono {f : Value} {r r' : List V → Hp → VK → Prop} (h : CallR X f r) (i : ∀ xs H Q, r' xs H Q → r xs H Q) : CallR X f r' :=
  fun pins s σ H xs us Q I rx q => h pins s σ H xs us Q I rx (i xs H Q q)
theorem call_run {K : PySem.W.Frag} {g : FN} {a : AF} {σ : St} {H : Hp} {Q : VK} (h : tF K W (eCall g a) σ H Q) :
    tCB (fun xs H Q => ∃ φ S ds d S', RH K φ H S ∧ RVs K φ H ds xs ∧ g ds S = some (d, S') ∧ ∀ φ' H' v, Ext K φ H φ' H' → RH K φ' H' S' → RV K φ' H' d v → Q v H') (tFA K W a) σ H Q := by
  obtain ⟨φ, ρ, S, rh, rl, f⟩ := h
  refine ⟨φ, ρ, S, rh, rl, (FinA.bind f).imp ?_⟩
  rintro vs H1 ⟨φ1, S1, ds, e1, rh1, rv1, f1⟩
  obtain ⟨d, S', e, k⟩ := fin_of f1
  exact ⟨φ1, S1, ds, d, S', rh1, rv1, e, k⟩
theorem ae_callB {id : String} {g : FN} (hc : CallA X (.builtin id) g) (hm : X.mg x = none) (hv : bootBuiltins x = some (.builtin id)) (ha : AA X W (e :: es) Fr) (hg : Gl X x := by rfl) (hn : x ≠ "__name__" := by decide) (hdb : (x == ("__debug__" : Str)) = false := by decide)
    (he : starEach (e :: es) X.env = (false, eval e X.env) :: starEach es X.env := by rfl) (hpl : (backTo pos (starEach es X.env)).any (·.1) = false := by rfl) : AE X W (.Call (.Name x p) (e :: es) [] pos) (eCall g Fr) :=
  pe_mono (pe_callB hc hg hm hv ha hn hdb he hpl) fun σ H Q h => call_run h
theorem ae_callTy {T : String} {g : FN} (hc : CallA X (.type T) g) (hm : X.mg x = none) (hv : bootBuiltins x = some (.type T)) (ha : AA X W (e :: es) Fr) (hg : Gl X x := by rfl) (hn : x ≠ "__name__" := by decide) (hdb : (x == ("__debug__" : Str)) = false := by decide)
    (he : starEach (e :: es) X.env = (false, eval e X.env) :: starEach es X.env := by rfl) (hpl : (backTo pos (starEach es X.env)).any (·.1) = false := by rfl) : AE X W (.Call (.Name x p) (e :: es) [] pos) (eCall g Fr) :=
  pe_mono (pe_callTy hc hg hm hv ha hn hdb he hpl) fun σ H Q h => call_run h
end
end Al

set_option Elab.async false
set_option linter.all false
set_option maxRecDepth 100000
set_option maxHeartbeats 1000000
/-! Al: operators, built-in functions. -/
namespace Al
open PySem PySem.Spec PyProof.Rows L2
theorem toS_app (a b : List Nat) : toS a ++ toS b = toS (a ++ b) := by
  show Str.append _ _ = _
  unfold Str.append
  simp [toS]
theorem toS_len (a : List Nat) : (toS a).length = a.length := by simp [toS, Str.length]
theorem toS_inj {a b : List Nat} (h : toS a = toS b) : a = b := by
  have := congrArg (fun z : Str => z.cps.toList) h
  simpa [toS] using this
theorem toS_beq (a b : List Nat) : (toS a == toS b) = (a == b) := by
  by_cases h : a = b
  · subst h; simp
  · rw [beq_eq_false_iff_ne.mpr h, beq_eq_false_iff_ne.mpr fun e => h (toS_inj e)]
theorem toS_dec (a b : List Nat) : decide (V.str (toS a) = V.str (toS b)) = (a == b) := by
  by_cases h : a = b
  · subst h; simp
  · rw [beq_eq_false_iff_ne.mpr h, decide_eq_false fun e => h (toS_inj (V.str.inj e))]
theorem toS_eta (z : Str) : toS z.cps.toList = z := by cases z; rfl

/-! ### + - * // % ** -/
def addO : F2
  | .int i, .int j, S => some (.int (i + j), S)
  | .str a, .str b, S => if a.length + b.length ≤ lim then some (.str (a ++ b), S) else none
  | .tup a, .tup b, S => if a.length + b.length ≤ lim then some (.tup (a ++ b), S) else none
  | .ref m, .ref n, S => match S[m]?, S[n]? with
    | some (.lst a), some (.lst b) => if a.length + b.length ≤ lim then some (.ref S.length, S ++ [.lst (a ++ b)]) else none
    | _, _ => none
  | _, _, _ => none
def subO : F2
  | .int i, .int j, S => some (.int (i - j), S)
  | _, _, _ => none
def smallI (i : Int) : Bool := decide (-(2 ^ 64) < i) && decide (i < 2 ^ 64)
def mulO : F2
  | .int i, .int j, S => if smallI i || smallI j then some (.int (i * j), S) else none
  | _, _, _ => none
def modO : F2
  | .int i, .int j, S => if 0 < j then some (.int (i % j), S) else none
  | _, _, _ => none
def fdivO : F2
  | .int i, .int j, S => if 0 < j ∧ j < 1073741824 then some (.int (i / j), S) else none
  | _, _, _ => none
def powO : F2
  | .int i, .int j, S => if 0 ≤ j ∧ j ≤ 1000000 ∧ i.natAbs < 2 ^ 64 then some (.int (i ^ j.toNat), S) else none
  | _, _, _ => none
section
variable {X : Cx}
theorem op_addA : OpA X (binaryOp .Add) addO := by
  intro pins s σ H x y v u Q I rx ry h
  obtain ⟨φ, S, a, b, d, S', rh, ra, rb, e, k⟩ := h
  cases a with
  | int i =>
    cases b with
    | int j =>
      cases e
      exact L2.op_add pins s σ H x y v u Q I rx ry ⟨i, j, ra.int_, rb.int_, k φ H _ .refl rh rv_int⟩
    | _ => cases e
  | str i =>
    cases b with
    | str j =>
      simp only [addO] at e
      split at e
      · cases e
        rename_i hl
        refine L2.op_add_str pins s σ H x y v u Q I rx ry ⟨_, _, ra.str_, rb.str_, by rw [toS_len, toS_len, lim_eq]; exact hl, ?_⟩
        rw [toS_app]
        exact k φ H _ .refl rh rv_str
      · cases e
    | _ => cases e
  | tup i =>
    cases b with
    | tup j =>
      simp only [addO] at e
      split at e
      · cases e
        rename_i hl
        obtain ⟨p, vs, e1, q1, r1⟩ := ra.tup_
        obtain ⟨p2, ws, e2, q2, r2⟩ := rb.tup_
        have l1 := r1.length
        have l2 := r2.length
        refine L2.op_catA pins s σ H x y v u Q I rx ry ⟨p, p2, vs, ws, e1, e2, q1, q2, by rw [← l1, ← l2, lim_eq]; exact hl, fun z => ?_, fun z z' => ?_, fun z z' q hq => ?_⟩
        · have : i = [] := by
            cases i with
            | nil => rfl
            | cons _ _ => rw [z] at l1; cases l1
          subst this
          exact k φ H _ .refl rh (rv_tup q2 r2)
        · have : j = [] := by
            cases j with
            | nil => rfl
            | cons _ _ => rw [z'] at l2; cases l2
          subst this
          rw [List.append_nil] at k
          exact k φ H _ .refl rh (rv_tup q1 r1)
        · have x := Ext.new (K := X.K) (φ := φ) (o := HO.tup (vs ++ ws)) hq
          exact k φ _ _ x (rh.new hq) (rv_tup (.inl (.inl upd_same)) ((r1.append r2).ext x))
      · cases e
    | _ => cases e
  | ref m =>
    cases b with
    | ref n =>
      simp only [addO] at e
      split at e
      · rename_i xs ys e1 e2
        split at e
        · cases e
          rename_i hl
          obtain ⟨p, z1, g1, vs, h1, r1⟩ := rh.obj e1 ra
          obtain ⟨p2, z2, g2, ws, h2, r2⟩ := rh.obj e2 rb
          refine L2.op_cat pins s σ H x y v u Q I rx ry ⟨p, p2, vs, ws, z1, z2, h1, h2, by rw [← r1.length, ← r2.length, lim_eq]; exact hl, fun q hq => ?_⟩
          have x := Ext.num (K := X.K) (φ := φ) (o := HO.lst (vs ++ ws)) hq
          exact k _ _ _ x (rh.alloc (x := .lst (xs ++ ys)) (o := HO.lst (vs ++ ws)) hq ⟨_, upd_same, (r1.append r2).ext x⟩) (rv_ref (by rw [← rh.len]; simp))
        · cases e
      · cases e
    | _ => cases e
  | _ => cases e
theorem op_subA : OpA X (binaryOp .Sub) subO := by
  intro pins s σ H x y v u Q I rx ry h
  obtain ⟨φ, S, a, b, d, S', rh, ra, rb, e, k⟩ := h
  cases a with
  | int i =>
    cases b with
    | int j =>
      cases e
      exact L2.op_sub pins s σ H x y v u Q I rx ry ⟨i, j, ra.int_, rb.int_, k φ H _ .refl rh rv_int⟩
    | _ => cases e
  | _ => cases e
theorem op_mulA : OpA X (binaryOp .Mult) mulO := by
  intro pins s σ H x y v u Q I rx ry h
  obtain ⟨φ, S, a, b, d, S', rh, ra, rb, e, k⟩ := h
  cases a with
  | int i =>
    cases b with
    | int j =>
      simp only [mulO] at e
      split at e
      · cases e
        rename_i hc
        refine L2.op_mul pins s σ H x y v u Q I rx ry ⟨i, j, ra.int_, rb.int_, ?_, k φ H _ .refl rh rv_int⟩
        simp only [smallI, Bool.or_eq_true, Bool.and_eq_true, decide_eq_true_eq] at hc
        exact hc
      · cases e
    | _ => cases e
  | _ => cases e
theorem op_modA : OpA X (binaryOp .Mod) modO := by
  intro pins s σ H x y v u Q I rx ry h
  obtain ⟨φ, S, a, b, d, S', rh, ra, rb, e, k⟩ := h
  cases a with
  | int i =>
    cases b with
    | int j =>
      simp only [modO] at e
      split at e
      · cases e
        rename_i hc
        exact L2.op_mod pins s σ H x y v u Q I rx ry ⟨i, j, ra.int_, rb.int_, hc, k φ H _ .refl rh rv_int⟩
      · cases e
    | _ => cases e
  | _ => cases e
theorem op_fdivA : OpA X (binaryOp .FloorDiv) fdivO := by
  intro pins s σ H x y v u Q I rx ry h
  obtain ⟨φ, S, a, b, d, S', rh, ra, rb, e, k⟩ := h
  cases a with
  | int i =>
    cases b with
    | int j =>
      simp only [fdivO] at e
      split at e
      · cases e
        rename_i hc
        exact L2.op_fdiv pins s σ H x y v u Q I rx ry ⟨i, j, ra.int_, rb.int_, hc, k φ H _ .refl rh rv_int⟩
      · cases e
    | _ => cases e
  | _ => cases e
theorem op_powA : OpA X (binaryOp .Pow) powO := by
  intro pins s σ H x y v u Q I rx ry h
  obtain ⟨φ, S, a, b, d, S', rh, ra, rb, e, k⟩ := h
  cases a with
  | int i =>
    cases b with
    | int j =>
      simp only [powO] at e
      split at e
      · cases e
        rename_i hc
        exact L2.op_pow pins s σ H x y v u Q I rx ry ⟨i, j, ra.int_, rb.int_, hc, k φ H _ .refl rh rv_int⟩
      · cases e
    | _ => cases e
  | _ => cases e
end
/-! ### unary minus -/
def eNeg (a : EF) : EF := fun ρ S => (a ρ S).bind fun x S1 => match x with
  | .int i => .ok (.int (-i)) S1
  | _ => .stuck
theorem ae_neg {X : Cx} {W : WX} {a : Expr} {Fa : EF} {pos : Pos} (ha : AE X W a Fa) : AE X W (.UnaryOp .USub a pos) (eNeg Fa) := by
  refine pe_mono (pe_un un_neg ha) fun σ H Q ⟨φ, ρ, S, rh, rl, f⟩ => ⟨φ, ρ, S, rh, rl, (Fin.bind f).imp ?_⟩
  rintro v H1 ⟨φ1, S1, d, e1, rh1, rv1, f1⟩
  cases d with
  | int i => exact ⟨i, rv1.int_, Fin.ok_of f1 rh1 rv_int⟩
  | _ => exact f1.elim

/-! ### data: what == compares -/
def strsOk (x : List Nat) : Bool := x.all fun c => decide (c < 0x110000)
def mapO {α β : Type} (f : α → Option β) : List α → Option (List β)
  | [] => some []
  | x :: xs => match f x, mapO f xs with
    | some y, some ys => some (y :: ys)
    | _, _ => none
/-- the tree of a value: lists read in the store; at most n levels -/
def toP : Nat → Store → D → Option PyData
  | 0, _, _ => none
  | n + 1, S, d => match d with
    | .non => some .none
    | .bl b => some (.bool b)
    | .int i => some (.int i)
    | .str x => if strsOk x then some (.str (toS x)) else none
    | .tup ds => (mapO (toP n S) ds).map .tuple
    | .ref m => match S[m]? with
      | some (.lst xs) => (mapO (toP n S) xs).map .list
      | _ => none
    | .scl xs => (mapO (toP n S) xs).map .list
def eqO : F2
  | .str a, .str b, S => some (.bl (a == b), S)
  | .int a, .int b, S => some (.bl (a == b), S)
  | a, b, S => match toP 60 S a, toP 60 S b with
    | some p, some q => some (.bl (PyData.eqv p q), S)
    | _, _ => none
def neO : F2
  | .str a, .str b, S => some (.bl (!(a == b)), S)
  | .int a, .int b, S => some (.bl (!(a == b)), S)
  | a, b, S => match toP 60 S a, toP 60 S b with
    | some p, some q => some (.bl (!PyData.eqv p q), S)
    | _, _ => none
section
variable {K : PySem.W.Frag} {φ : List Addr} {H : Hp} {S : Store}
theorem toP_all (rh : RH K φ H S) {n : Nat} (ih : ∀ d v p, RV K φ H d v → toP n S d = some p → Dp K H v p ∧ p.canLay0 = true ∧ p.depth ≤ n) :
    ∀ (ds : List D) (vs : List V) (ps : List PyData), RVs K φ H ds vs → mapO (toP n S) ds = some ps → DpAll K H vs ps ∧ PyData.canLayAll0 ps = true ∧ PyData.depthAll ps ≤ n
  | [], vs, ps, h, e => by
    cases h.nil_iff
    cases e
    exact ⟨.nil, rfl, Nat.zero_le _⟩
  | d :: ds, vs, ps, h, e => by
    obtain ⟨v, r, rfl, h1, h2⟩ := h.cons_iff
    simp only [mapO] at e
    split at e
    · rename_i y ys e1 e2
      cases e
      obtain ⟨a1, a2, a3⟩ := ih d v y h1 e1
      obtain ⟨b1, b2, b3⟩ := toP_all rh ih ds r ys h2 e2
      refine ⟨.cons a1 b1, ?_, ?_⟩
      · show (PyData.canLay0 y && PyData.canLayAll0 ys) = true
        rw [a2, b2]; rfl
      · show max y.depth (PyData.depthAll ys) ≤ n
        omega
    · cases e
theorem toP_ok (rh : RH K φ H S) : ∀ (n : Nat) (d : D) (v : V) (p : PyData), RV K φ H d v → toP n S d = some p → Dp K H v p ∧ p.canLay0 = true ∧ p.depth ≤ n
  | 0, d, v, p, h, e => by cases e
  | n + 1, d, v, p, h, e => by
    cases d with
    | non => cases e; rw [h.non_]; exact ⟨.non, rfl, Nat.zero_le _⟩
    | bl b => cases e; rw [h.bl_]; exact ⟨.bl b, rfl, Nat.zero_le _⟩
    | int i => cases e; rw [h.int_]; exact ⟨.int i, rfl, Nat.zero_le _⟩
    | str x =>
      simp only [toP] at e
      split at e
      · cases e
        rename_i hx
        rw [h.str_]
        refine ⟨.str _, ?_, Nat.zero_le _⟩
        show PyData.strOk (toS x) = true
        unfold PyData.strOk
        unfold strsOk at hx
        simpa [toS] using hx
      · cases e
    | tup ds =>
      simp only [toP] at e
      obtain ⟨q, vs, rfl, sq, r⟩ := h.tup_
      cases z : mapO (toP n S) ds with
      | none => rw [z] at e; cases e
      | some ps =>
        rw [z] at e
        cases e
        obtain ⟨a1, a2, a3⟩ := toP_all rh (fun d v p => toP_ok rh n d v p) ds vs ps r z
        exact ⟨.tup sq a1, a2, by show PyData.depthAll ps + 1 ≤ n + 1; omega⟩
    | ref m =>
      simp only [toP] at e
      split at e
      · rename_i xs e1
        obtain ⟨q, rfl, g, vs, h1, r⟩ := rh.obj e1 h
        cases z : mapO (toP n S) xs with
        | none => rw [z] at e; cases e
        | some ps =>
          rw [z] at e
          cases e
          obtain ⟨a1, a2, a3⟩ := toP_all rh (fun d v p => toP_ok rh n d v p) xs vs ps r z
          exact ⟨.lst (.inl (.inl h1)) a1, a2, by show PyData.depthAll ps + 1 ≤ n + 1; omega⟩
      · cases e
    | scl xs =>
      simp only [toP] at e
      obtain ⟨q, vs, rfl, sq, r⟩ := h.scl_
      cases z : mapO (toP n S) xs with
      | none => rw [z] at e; cases e
      | some ps =>
        rw [z] at e
        cases e
        obtain ⟨a1, a2, a3⟩ := toP_all rh (fun d v p => toP_ok rh n d v p) xs vs ps r z
        exact ⟨.lst sq.sq a1, a2, by show PyData.depthAll ps + 1 ≤ n + 1; omega⟩
theorem toP_shaped (rh : RH K φ H S) {d : D} {v : V} {p : PyData} (h : RV K φ H d v) (e : toP 60 S d = some p) : Dp K H v p ∧ SeqAt.shaped p = true := by
  obtain ⟨a, b, c⟩ := toP_ok rh 60 d v p h e
  refine ⟨a, ?_⟩
  unfold SeqAt.shaped
  rw [b, Bool.true_and]
  exact decide_eq_true (by omega)
end
section
variable {X : Cx}
theorem op_eqA (hu : X.A.units + 64 < cLine) : OpA X (compareOp .Eq) eqO := by
  intro pins s σ H x y v u Q I rx ry h
  obtain ⟨φ, S, a, b, d, S', rh, ra, rb, e, k⟩ := h
  unfold eqO at e
  split at e
  · cases e
    refine L2.op_eq pins s σ H x y v u Q I rx ry ⟨by rw [ra.str_, rb.str_]; rfl, ?_⟩
    rw [ra.str_, rb.str_, toS_dec]
    exact k φ H _ .refl rh rv_bl
  · cases e
    refine L2.op_eq pins s σ H x y v u Q I rx ry ⟨by rw [ra.int_, rb.int_]; rfl, ?_⟩
    rw [ra.int_, rb.int_, dec_int]
    exact k φ H _ .refl rh rv_bl
  · split at e
    · rename_i p q e1 e2
      cases e
      obtain ⟨a1, a2⟩ := toP_shaped rh ra e1
      obtain ⟨b1, b2⟩ := toP_shaped rh rb e2
      exact L2.op_eqD hu pins s σ H x y v u Q I rx ry ⟨p, q, a1, b1, a2, b2, k φ H _ .refl rh rv_bl⟩
    · cases e
theorem op_neA (hu : X.A.units + 64 < cLine) : OpA X (compareOp .NotEq) neO := by
  intro pins s σ H x y v u Q I rx ry h
  obtain ⟨φ, S, a, b, d, S', rh, ra, rb, e, k⟩ := h
  unfold neO at e
  split at e
  · cases e
    refine L2.op_ne pins s σ H x y v u Q I rx ry ⟨by rw [ra.str_, rb.str_]; rfl, ?_⟩
    rw [ra.str_, rb.str_, toS_dec]
    exact k φ H _ .refl rh rv_bl
  · cases e
    refine L2.op_ne pins s σ H x y v u Q I rx ry ⟨by rw [ra.int_, rb.int_]; rfl, ?_⟩
    rw [ra.int_, rb.int_, dec_int]
    exact k φ H _ .refl rh rv_bl
  · split at e
    · rename_i p q e1 e2
      cases e
      obtain ⟨a1, a2⟩ := toP_shaped rh ra e1
      obtain ⟨b1, b2⟩ := toP_shaped rh rb e2
      exact L2.op_neD hu pins s σ H x y v u Q I rx ry ⟨p, q, a1, b1, a2, b2, k φ H _ .refl rh rv_bl⟩
    · cases e
end

/-! ### order -/
def ltO : F2
  | .int i, .int j, S => some (.bl (decide (i < j)), S)
  | .str a, .str b, S => some (.bl (decide (a < b)), S)
  | _, _, _ => none
def leO : F2
  | .int i, .int j, S => some (.bl (decide (i ≤ j)), S)
  | .str a, .str b, S => some (.bl (!decide (b < a)), S)
  | _, _, _ => none
def gtO : F2
  | .int i, .int j, S => some (.bl (decide (j < i)), S)
  | .str a, .str b, S => some (.bl (decide (b < a)), S)
  | _, _, _ => none
def geO : F2
  | .int i, .int j, S => some (.bl (decide (j ≤ i)), S)
  | .str a, .str b, S => some (.bl (!decide (a < b)), S)
  | _, _, _ => none
section
variable {X : Cx}
theorem op_ltA : OpA X (compareOp .Lt) ltO := by
  intro pins s σ H x y v u Q I rx ry h
  obtain ⟨φ, S, a, b, d, S', rh, ra, rb, e, k⟩ := h
  unfold ltO at e
  split at e
  · cases e; exact L2.op_lt pins s σ H x y v u Q I rx ry ⟨_, _, ra.int_, rb.int_, k φ H _ .refl rh rv_bl⟩
  · cases e; exact L2.op_lt_str pins s σ H x y v u Q I rx ry ⟨_, _, ra.str_, rb.str_, by simpa [toS] using k φ H _ .refl rh rv_bl⟩
  · cases e
theorem op_leA : OpA X (compareOp .LtE) leO := by
  intro pins s σ H x y v u Q I rx ry h
  obtain ⟨φ, S, a, b, d, S', rh, ra, rb, e, k⟩ := h
  unfold leO at e
  split at e
  · cases e; exact L2.op_le pins s σ H x y v u Q I rx ry ⟨_, _, ra.int_, rb.int_, k φ H _ .refl rh rv_bl⟩
  · cases e; exact L2.op_le_str pins s σ H x y v u Q I rx ry ⟨_, _, ra.str_, rb.str_, k φ H _ .refl rh rv_bl⟩
  · cases e
theorem op_gtA : OpA X (compareOp .Gt) gtO := by
  intro pins s σ H x y v u Q I rx ry h
  obtain ⟨φ, S, a, b, d, S', rh, ra, rb, e, k⟩ := h
  unfold gtO at e
  split at e
  · cases e; exact L2.op_gt pins s σ H x y v u Q I rx ry ⟨_, _, ra.int_, rb.int_, k φ H _ .refl rh rv_bl⟩
  · cases e; exact L2.op_gt_str pins s σ H x y v u Q I rx ry ⟨_, _, ra.str_, rb.str_, k φ H _ .refl rh rv_bl⟩
  · cases e
theorem op_geA : OpA X (compareOp .GtE) geO := by
  intro pins s σ H x y v u Q I rx ry h
  obtain ⟨φ, S, a, b, d, S', rh, ra, rb, e, k⟩ := h
  unfold geO at e
  split at e
  · cases e; exact L2.op_ge pins s σ H x y v u Q I rx ry ⟨_, _, ra.int_, rb.int_, k φ H _ .refl rh rv_bl⟩
  · cases e; exact L2.op_ge_str pins s σ H x y v u Q I rx ry ⟨_, _, ra.str_, rb.str_, k φ H _ .refl rh rv_bl⟩
  · cases e
end

/-! ### in -/
/-- a text among texts -/
def asStr : D → Option (List Nat)
  | .str x => some x
  | _ => none
def inB (a b : D) (S : Store) : Option Bool := match a, b with
  | .str [c], .str z => some (decide (c ∈ z))
  | .str x, .tup ds => (mapO asStr ds).map fun l => l.any (· == x)
  | .str x, .ref n => match S[n]? with
    | some (.lst ds) => (mapO asStr ds).map fun l => l.any (· == x)
    | _ => none
  | _, _ => none
def inO : F2 := fun a b S => (inB a b S).map fun k => (.bl k, S)
def notInO : F2 := fun a b S => (inB a b S).map fun k => (.bl (!k), S)
theorem asStr_all {K : PySem.W.Frag} {φ : List Addr} {H : Hp} : ∀ {ds : List D} {vs : List V} {l : List (List Nat)}, RVs K φ H ds vs → mapO asStr ds = some l → vs = (l.map toS).map V.str
  | [], vs, l, h, e => by cases e; exact h.nil_iff
  | d :: ds, vs, l, h, e => by
    obtain ⟨v, r, rfl, h1, h2⟩ := h.cons_iff
    simp only [mapO] at e
    split at e
    · rename_i y ys e1 e2
      cases e
      cases d with
      | str x => cases e1; rw [h1.str_, asStr_all h2 e2]; rfl
      | _ => cases e1
    · cases e
theorem flat_strsL (l : List (List Nat)) : ((l.map toS).map V.str).all flatV = true := by
  induction l with
  | nil => rfl
  | cons x xs ih => exact ih
theorem inV_strs (x : List Nat) (l : List (List Nat)) : inV (.str (toS x)) ((l.map toS).map V.str) = l.any (· == x) := by
  unfold inV
  induction l with
  | nil => rfl
  | cons y ys ih =>
    rw [List.map_cons, List.map_cons, List.any_cons, List.any_cons, ih]
    congr 1
    exact toS_beq y x
section
variable {X : Cx}
theorem in_seq {φ : List Addr} {H : Hp} {S : Store} {a b : D} {k : Bool} {x y : V} (rh : RH X.K φ H S) (ra : RV X.K φ H a x) (rb : RV X.K φ H b y) (e : inB a b S = some k) :
    (∃ (c : Nat) (z : List Nat), a = .str [c] ∧ b = .str z ∧ k = decide (c ∈ z)) ∨ ∃ p xs, y = .ref p ∧ (SqL X.K H p xs ∨ SqT X.K H p xs) ∧ flatV x = true ∧ xs.all flatV = true ∧ inV x xs = k := by
  unfold inB at e
  split at e
  · cases e; exact .inl ⟨_, _, rfl, rfl, rfl⟩
  · rename_i z ds
    cases m : mapO asStr ds with
    | none => rw [m] at e; cases e
    | some l =>
      rw [m] at e
      cases e
      obtain ⟨p, vs, rfl, sq, r⟩ := rb.tup_
      have := asStr_all r m
      subst this
      exact .inr ⟨p, _, rfl, .inr sq, by rw [ra.str_]; rfl, flat_strsL l, by rw [ra.str_]; exact inV_strs z l⟩
  · split at e
    · rename_i z n _ _ ds e1
      cases m : mapO asStr ds with
      | none => rw [m] at e; cases e
      | some l =>
        rw [m] at e
        cases e
        obtain ⟨p, rfl, g, vs, h1, r⟩ := rh.obj e1 rb
        have := asStr_all r m
        subst this
        exact .inr ⟨p, _, rfl, .inl (.inl (.inl h1)), by rw [ra.str_]; rfl, flat_strsL l, by rw [ra.str_]; exact inV_strs _ l⟩
    · cases e
  · cases e
theorem op_inA : OpA X (compareOp .In) inO := by
  intro pins s σ H x y v u Q I rx ry h
  obtain ⟨φ, S, a, b, d, S', rh, ra, rb, e, k⟩ := h
  unfold inO at e
  cases z : inB a b S with
  | none => rw [z] at e; cases e
  | some t =>
    rw [z] at e
    cases e
    rcases in_seq rh ra rb z with ⟨c, w, rfl, rfl, rfl⟩ | ⟨p, xs, e1, sq, f1, f2, e2⟩
    · exact L2.op_in_sign pins s σ H x y v u Q I rx ry ⟨c, toS w, ra.str_, rb.str_, by simpa [toS] using k φ H _ .refl rh rv_bl⟩
    · refine L2.op_in_seq pins s σ H x y v u Q I rx ry ⟨p, xs, e1, sq, f1, f2, ?_⟩
      rw [if_neg Bool.false_ne_true, e2]
      exact k φ H _ .refl rh rv_bl
theorem op_notInA : OpA X (compareOp .NotIn) notInO := by
  intro pins s σ H x y v u Q I rx ry h
  obtain ⟨φ, S, a, b, d, S', rh, ra, rb, e, k⟩ := h
  unfold notInO at e
  cases z : inB a b S with
  | none => rw [z] at e; cases e
  | some t =>
    rw [z] at e
    cases e
    rcases in_seq rh ra rb z with ⟨c, w, rfl, rfl, rfl⟩ | ⟨p, xs, e1, sq, f1, f2, e2⟩
    · exact L2.op_notIn_sign pins s σ H x y v u Q I rx ry ⟨c, toS w, ra.str_, rb.str_, by simpa [toS] using k φ H _ .refl rh rv_bl⟩
    · refine L2.op_notIn_seq pins s σ H x y v u Q I rx ry ⟨p, xs, e1, sq, f1, f2, ?_⟩
      rw [if_pos rfl, e2]
      exact k φ H _ .refl rh rv_bl
end
end Al

set_option Elab.async false
set_option linter.all false
set_option maxRecDepth 100000
set_option maxHeartbeats 1000000
/-! Al: built-in functions, subscripts, slices, methods. -/
namespace Al
open PySem PySem.Spec PyProof.Rows L2
/-! ### len -/
def lenF : FN
  | [.str x], S => if x.length ≤ lim then some (.int x.length, S) else none
  | [.tup ds], S => some (.int ds.length, S)
  | [.ref n], S => match S[n]? with
    | some (.lst xs) => some (.int xs.length, S)
    | _ => none
  | [.scl xs], S => some (.int xs.length, S)
  | _, _ => none
section
variable {X : Cx}
theorem rvs1 {K φ H} {d : D} {xs : List V} (h : RVs K φ H [d] xs) : ∃ v, xs = [v] ∧ RV K φ H d v := by
  obtain ⟨v, r, rfl, h1, h2⟩ := h.cons_iff
  cases h2.nil_iff
  exact ⟨v, rfl, h1⟩
theorem rvs2 {K φ H} {d e : D} {xs : List V} (h : RVs K φ H [d, e] xs) : ∃ v w, xs = [v, w] ∧ RV K φ H d v ∧ RV K φ H e w := by
  obtain ⟨v, r, rfl, h1, h2⟩ := h.cons_iff
  obtain ⟨w, rfl, h3⟩ := rvs1 h2
  exact ⟨v, w, rfl, h1, h3⟩
theorem call_lenA : CallA X (.builtin "len") lenF := by
  intro pins s σ H xs us Q I r h
  obtain ⟨φ, S, ds, d, S', rh, rv, e, k⟩ := h
  unfold lenF at e
  split at e
  · rename_i x
    split at e
    · cases e
      rename_i hl
      obtain ⟨v, rfl, rz⟩ := rvs1 rv
      refine L2.call_len_str pins s σ H _ us Q I r ⟨toS x, by rw [rz.str_], by rw [toS_len, lim_eq]; exact hl, ?_⟩
      rw [toS_len]
      exact k φ H _ .refl rh rv_int
    · cases e
  · rename_i es
    cases e
    obtain ⟨v, rfl, rz⟩ := rvs1 rv
    obtain ⟨p, vs, rfl, sq, rs⟩ := rz.tup_
    refine L2.call_len_seq pins s σ H _ us Q I r ⟨p, vs, rfl, .inr sq, ?_⟩
    rw [← rs.length]
    exact k φ H _ .refl rh rv_int
  · rename_i n
    split at e
    · rename_i ys e1
      cases e
      obtain ⟨v, rfl, rz⟩ := rvs1 rv
      obtain ⟨p, rfl, g, vs, h1, rs⟩ := rh.obj e1 rz
      refine L2.call_len_seq pins s σ H _ us Q I r ⟨p, vs, rfl, .inl (.inl (.inl h1)), ?_⟩
      rw [← rs.length]
      exact k φ H _ .refl rh rv_int
    · cases e
  · rename_i ys
    cases e
    obtain ⟨v, rfl, rz⟩ := rvs1 rv
    obtain ⟨p, vs, rfl, sq, rs⟩ := rz.scl_
    refine L2.call_len_seq pins s σ H _ us Q I r ⟨p, vs, rfl, .inl sq.sq, ?_⟩
    rw [← rs.length]
    exact k φ H _ .refl rh rv_int
  · cases e
end

/-! ### isinstance(x, T), T a built-in type -/
inductive Kd where
  | non | bl | int | str | tup | lst | dct
  deriving DecidableEq
def kdOf (d : D) (S : Store) : Option Kd := match d with
  | .non => some .non
  | .bl _ => some .bl
  | .int _ => some .int
  | .str _ => some .str
  | .tup _ => some .tup
  | .ref n => match S[n]? with
    | some (.lst _) => some .lst
    | some (.dct _) => some .dct
    | _ => none
  | .scl _ => some .lst
def Kd.ty : Kd → String
  | .non => "NoneType" | .bl => "bool" | .int => "int" | .str => "str" | .tup => "tuple" | .lst => "list" | .dct => "dict"
/-- T's answers -/
structure IsT (T : String) (t : Kd → Bool) : Prop where
  ans : ∀ k : Kd, kitB k.ty T = some (t k)
def isStr : Kd → Bool | .str => true | _ => false
def isTup : Kd → Bool | .tup => true | _ => false
def isLst : Kd → Bool | .lst => true | _ => false
def isDct : Kd → Bool | .dct => true | _ => false
def isInt : Kd → Bool | .int => true | .bl => true | _ => false
def isBl : Kd → Bool | .bl => true | _ => false
theorem isT_str : IsT "str" isStr := ⟨fun k => by cases k <;> decide +kernel⟩
theorem isT_tup : IsT "tuple" isTup := ⟨fun k => by cases k <;> decide +kernel⟩
theorem isT_lst : IsT "list" isLst := ⟨fun k => by cases k <;> decide +kernel⟩
theorem isT_dct : IsT "dict" isDct := ⟨fun k => by cases k <;> decide +kernel⟩
theorem isT_int : IsT "int" isInt := ⟨fun k => by cases k <;> decide +kernel⟩
theorem isT_bl : IsT "bool" isBl := ⟨fun k => by cases k <;> decide +kernel⟩
def eIsi (t : Kd → Bool) (a : EF) : EF := fun ρ S => (a ρ S).bind fun x S1 => match kdOf x S1 with
  | some k => .ok (.bl (t k)) S1
  | none => .stuck
theorem kd_ty {K : PySem.W.Frag} {φ : List Addr} {H : Hp} {S : Store} {d : D} {k : Kd} {v : V} (rh : RH K φ H S) (e : kdOf d S = some k) (r : RV K φ H d v) : TyX K H v (.type k.ty) := by
  cases d with
  | non => cases e; rw [r.non_]; exact .base .non
  | bl b => cases e; rw [r.bl_]; exact .base (.bl b)
  | int i => cases e; rw [r.int_]; exact .base (.int i)
  | str x => cases e; rw [r.str_]; exact .base (.str _)
  | tup ds =>
    cases e
    obtain ⟨p, vs, rfl, sq, _⟩ := r.tup_
    rcases sq with (h | ⟨o, h⟩) | ⟨o, its, n, h, hc, _⟩
    · exact .base (.tup h)
    · exact .fTuple h
    · exact .kTuple h hc
  | ref n =>
    simp only [kdOf] at e
    split at e
    · rename_i xs e1
      cases e
      obtain ⟨p, rfl, g, vs, h1, _⟩ := rh.obj e1 r
      exact .base (.lst h1)
    · rename_i xs e1
      cases e
      obtain ⟨p, rfl, g, vs, h1, _⟩ := rh.obj e1 r
      exact .base (.dK h1)
    · cases e
  | scl ds =>
    cases e
    obtain ⟨p, vs, rfl, sq, _⟩ := r.scl_
    rcases sq with ⟨o, h⟩ | ⟨o, its, n, h, hc, _⟩
    · exact .base (.frz h)
    · exact .kList h hc
section
variable {X : Cx} {W : WX} {e : Expr} {Fa : EF} {pos p q : Pos}
theorem ae_isi {T : Str} {TT : String} {t : Kd → Bool} (ht : IsT TT t) (ha : AE X W e Fa) (hm : X.mg "isinstance" = none) (hmT : X.mg T = none) (hb : bootBuiltins T = some (.type TT)) (hg : Gl X "isinstance" := by rfl) (hgT : Gl X T := by rfl) (hn : T ≠ "__name__" := by decide) (hd : (T == ("__debug__" : Str)) = false := by decide)
    (he : starEach [e, .Name T q] X.env = (false, eval e X.env) :: starEach [.Name T q] X.env := by rfl) (he2 : starEach [.Name T q] X.env = (false, eval (.Name T q) X.env) :: starEach [] X.env := by rfl) (hpl : (backTo pos (starEach [.Name T q] X.env)).any (·.1) = false := by rfl) :
    AE X W (.Call (.Name "isinstance" p) [e, .Name T q] [] pos) (eIsi t Fa) := by
  refine pe_mono (pe_callB L2.call_isi hg hm PyProof.Rows.boot_isinstance (pa_cons ha (pa_cons (pe_bltn (v := .ty TT) hgT hmT hb rfl hn hd) pa_nil he2) he) (by decide) (by decide) he hpl) fun σ H Q ⟨φ, ρ, S, rh, rl, f⟩ => ⟨φ, ρ, S, rh, rl, (Fin.bind f).imp ?_⟩
  rintro v H1 ⟨φ1, S1, d, e1, rh1, rv1, f1⟩
  split at f1
  · rename_i k ek
    exact ⟨v, .ty TT, .type k.ty, .type TT, t k, rfl, .ty TT, kd_ty rh1 ek rv1, kit_ty (ht.ans k), Fin.ok_of f1 rh1 rv_bl⟩
  · exact f1.elim
end

/-! ### int, min, max, all, any, sum -/
def intF : FN
  | [.int i], S => some (.int i, S)
  | _, _ => none
def minF : FN
  | [.int i, .int j], S => some (.int (if j < i then j else i), S)
  | _, _ => none
def maxF : FN
  | [.int i, .int j], S => some (.int (if j > i then j else i), S)
  | _, _ => none
def asBl : D → Option Bool
  | .bl b => some b
  | _ => none
def asInt : D → Option Int
  | .int b => some b
  | _ => none
def lstAt (S : Store) (n : Nat) : Option (List D) := match S[n]? with
  | some (.lst xs) => some xs
  | _ => none
def allF : FN
  | [.ref n], S => ((lstAt S n).bind (mapO asBl)).map fun l => (.bl (l.all id), S)
  | _, _ => none
def anyF : FN
  | [.ref n], S => ((lstAt S n).bind (mapO asBl)).map fun l => (.bl (l.any id), S)
  | _, _ => none
def sumF : FN
  | [.ref n], S => ((lstAt S n).bind (mapO asInt)).map fun l => (.int l.sum, S)
  | _, _ => none
theorem asBl_all {K : PySem.W.Frag} {φ : List Addr} {H : Hp} : ∀ {ds : List D} {vs : List V} {l : List Bool}, RVs K φ H ds vs → mapO asBl ds = some l → vs = l.map V.bl
  | [], vs, l, h, e => by cases e; exact h.nil_iff
  | d :: ds, vs, l, h, e => by
    obtain ⟨v, r, rfl, h1, h2⟩ := h.cons_iff
    simp only [mapO] at e
    split at e
    · rename_i y ys e1 e2
      cases e
      cases d with
      | bl x => cases e1; rw [h1.bl_, asBl_all h2 e2]; rfl
      | _ => cases e1
    · cases e
theorem asInt_all {K : PySem.W.Frag} {φ : List Addr} {H : Hp} : ∀ {ds : List D} {vs : List V} {l : List Int}, RVs K φ H ds vs → mapO asInt ds = some l → vs = l.map V.int
  | [], vs, l, h, e => by cases e; exact h.nil_iff
  | d :: ds, vs, l, h, e => by
    obtain ⟨v, r, rfl, h1, h2⟩ := h.cons_iff
    simp only [mapO] at e
    split at e
    · rename_i y ys e1 e2
      cases e
      cases d with
      | int x => cases e1; rw [h1.int_, asInt_all h2 e2]; rfl
      | _ => cases e1
    · cases e
theorem lstAt_ok {K : PySem.W.Frag} {φ : List Addr} {H : Hp} {S : Store} {n : Nat} {xs : List D} {v : V} (rh : RH K φ H S) (e : lstAt S n = some xs) (r : RV K φ H (.ref n) v) : ∃ p vs, v = .ref p ∧ SqL K H p vs ∧ RVs K φ H xs vs := by
  unfold lstAt at e
  split at e
  · rename_i ys e1
    cases e
    obtain ⟨p, rfl, g, vs, h1, rs⟩ := rh.obj e1 r
    exact ⟨p, vs, rfl, .inl (.inl h1), rs⟩
  · cases e
section
variable {X : Cx}
theorem call_intA : CallA X (.type "int") intF := by
  intro pins s σ H xs us Q I r h
  obtain ⟨φ, S, ds, d, S', rh, rv, e, k⟩ := h
  unfold intF at e
  split at e
  · cases e
    obtain ⟨v, rfl, rz⟩ := rvs1 rv
    exact L2.call_int1 pins s σ H _ us Q I r (.inl ⟨_, by rw [rz.int_], k φ H _ .refl rh rv_int⟩)
  · cases e
theorem call_minA (hc : X.calm = true) : CallA X (.builtin "min") minF := by
  intro pins s σ H xs us Q I r h
  obtain ⟨φ, S, ds, d, S', rh, rv, e, k⟩ := h
  unfold minF at e
  split at e
  · cases e
    obtain ⟨v, w, rfl, rz, rw'⟩ := rvs2 rv
    exact L2.call_min2 hc pins s σ H _ us Q I r ⟨_, _, by rw [rz.int_, rw'.int_], k φ H _ .refl rh rv_int⟩
  · cases e
theorem call_maxA (hc : X.calm = true) : CallA X (.builtin "max") maxF := by
  intro pins s σ H xs us Q I r h
  obtain ⟨φ, S, ds, d, S', rh, rv, e, k⟩ := h
  unfold maxF at e
  split at e
  · cases e
    obtain ⟨v, w, rfl, rz, rw'⟩ := rvs2 rv
    exact L2.call_max2 hc pins s σ H _ us Q I r ⟨_, _, by rw [rz.int_, rw'.int_], k φ H _ .refl rh rv_int⟩
  · cases e
theorem bindO {α β : Type} {o : Option α} {f : α → Option β} {b : β} (h : o.bind f = some b) : ∃ a, o = some a ∧ f a = some b := by
  cases o with
  | none => cases h
  | some a => exact ⟨a, rfl, h⟩
theorem mapOpt {α β : Type} {o : Option α} {f : α → β} {b : β} (h : o.map f = some b) : ∃ a, o = some a ∧ f a = b := by
  cases o with
  | none => cases h
  | some a => exact ⟨a, rfl, Option.some.inj h⟩
theorem call_allA (hc : X.calm = true) : CallA X (.builtin "all") allF := by
  intro pins s σ H xs us Q I r h
  obtain ⟨φ, S, ds, d, S', rh, rv, e, k⟩ := h
  unfold allF at e
  split at e
  · obtain ⟨l, e1, e2⟩ := mapOpt e
    cases e2
    obtain ⟨xs, e1, e3⟩ := bindO e1
    obtain ⟨v, rfl, rz⟩ := rvs1 rv
    obtain ⟨p, vs, rfl, sq, rs⟩ := lstAt_ok rh e1 rz
    rw [asBl_all rs e3] at sq
    exact L2.cr_all hc pins s σ H _ us Q I r ⟨p, l, rfl, sq, k φ H _ .refl rh rv_bl⟩
  · cases e
theorem call_anyA (hc : X.calm = true) : CallA X (.builtin "any") anyF := by
  intro pins s σ H xs us Q I r h
  obtain ⟨φ, S, ds, d, S', rh, rv, e, k⟩ := h
  unfold anyF at e
  split at e
  · obtain ⟨l, e1, e2⟩ := mapOpt e
    cases e2
    obtain ⟨xs, e1, e3⟩ := bindO e1
    obtain ⟨v, rfl, rz⟩ := rvs1 rv
    obtain ⟨p, vs, rfl, sq, rs⟩ := lstAt_ok rh e1 rz
    rw [asBl_all rs e3] at sq
    exact L2.cr_any hc pins s σ H _ us Q I r ⟨p, l, rfl, sq, k φ H _ .refl rh rv_bl⟩
  · cases e
theorem call_sumA (hc : X.calm = true) : CallA X (.builtin "sum") sumF := by
  intro pins s σ H xs us Q I r h
  obtain ⟨φ, S, ds, d, S', rh, rv, e, k⟩ := h
  unfold sumF at e
  split at e
  · obtain ⟨l, e1, e2⟩ := mapOpt e
    cases e2
    obtain ⟨xs, e1, e3⟩ := bindO e1
    obtain ⟨v, rfl, rz⟩ := rvs1 rv
    obtain ⟨p, vs, rfl, sq, rs⟩ := lstAt_ok rh e1 rz
    rw [asInt_all rs e3] at sq
    exact L2.cr_sum hc pins s σ H _ us Q I r ⟨p, l, rfl, sq, k φ H _ .refl rh rv_int⟩
  · cases e
end

/-! ### list(x), tuple(x) -/
def listF : FN
  | [.tup ds], S => some (.ref S.length, S ++ [.lst ds])
  | [.ref n], S => (lstAt S n).map fun xs => (.ref S.length, S ++ [.lst xs])
  | [.scl ds], S => some (.ref S.length, S ++ [.lst ds])
  | _, _ => none
def tupleF : FN
  | [.tup ds], S => some (.tup ds, S)
  | [.ref n], S => (lstAt S n).map fun xs => (.tup xs, S)
  | _, _ => none
section
variable {X : Cx}
theorem new_list {K : PySem.W.Frag} {φ : List Addr} {H : Hp} {S : Store} {ds : List D} {vs : List V} {Q : VK} (rh : RH K φ H S) (r : RVs K φ H ds vs)
    (k : ∀ φ' H' v, Ext K φ H φ' H' → RH K φ' H' (S ++ [.lst ds]) → RV K φ' H' (.ref S.length) v → Q v H') (q : Addr) (hq : H q = none) : Q (.ref q) (upd H q (.lst vs)) := by
  have x := Ext.num (K := K) (φ := φ) (o := HO.lst vs) hq
  exact k _ _ _ x (rh.alloc (x := .lst ds) (o := HO.lst vs) hq ⟨_, upd_same, r.ext x⟩) (rv_ref (by rw [← rh.len]; simp))
theorem new_tup {K : PySem.W.Frag} {φ : List Addr} {H : Hp} {S : Store} {ds : List D} {vs : List V} {Q : VK} (rh : RH K φ H S) (r : RVs K φ H ds vs)
    (k : ∀ φ' H' v, Ext K φ H φ' H' → RH K φ' H' S → RV K φ' H' (.tup ds) v → Q v H') (q : Addr) (hq : H q = none) : Q (.ref q) (upd H q (.tup vs)) := by
  have x := Ext.new (K := K) (φ := φ) (o := HO.tup vs) hq
  exact k _ _ _ x (rh.new hq) (rv_tup (.inl (.inl upd_same)) (r.ext x))
theorem call_listA : CallA X (.type "list") listF := by
  intro pins s σ H xs us Q I r h
  obtain ⟨φ, S, ds, d, S', rh, rv, e, k⟩ := h
  unfold listF at e
  split at e
  · cases e
    obtain ⟨v, rfl, rz⟩ := rvs1 rv
    obtain ⟨p, vs, rfl, sq, rs⟩ := rz.tup_
    exact L2.call_list_of pins s σ H _ us Q I r ⟨p, vs, rfl, .inr sq, new_list rh rs k⟩
  · obtain ⟨l, e1, e2⟩ := mapOpt e
    cases e2
    obtain ⟨v, rfl, rz⟩ := rvs1 rv
    obtain ⟨p, vs, rfl, sq, rs⟩ := lstAt_ok rh e1 rz
    exact L2.call_list_of pins s σ H _ us Q I r ⟨p, vs, rfl, .inl sq, new_list rh rs k⟩
  · cases e
    obtain ⟨v, rfl, rz⟩ := rvs1 rv
    obtain ⟨p, vs, rfl, sq, rs⟩ := rz.scl_
    exact L2.call_list_of pins s σ H _ us Q I r ⟨p, vs, rfl, .inl sq.sq, new_list rh rs k⟩
  · cases e
theorem call_tupleA : CallA X (.type "tuple") tupleF := by
  intro pins s σ H xs us Q I r h
  obtain ⟨φ, S, ds, d, S', rh, rv, e, k⟩ := h
  unfold tupleF at e
  split at e
  · cases e
    obtain ⟨v, rfl, rz⟩ := rvs1 rv
    obtain ⟨p, vs, rfl, sq, rs⟩ := rz.tup_
    exact L2.call_tuple_of pins s σ H _ us Q I r ⟨p, vs, rfl, .inr ⟨sq, k φ H _ .refl rh (rv_tup sq rs)⟩⟩
  · obtain ⟨l, e1, e2⟩ := mapOpt e
    cases e2
    obtain ⟨v, rfl, rz⟩ := rvs1 rv
    obtain ⟨p, vs, rfl, sq, rs⟩ := lstAt_ok rh e1 rz
    exact L2.call_tuple_of pins s σ H _ us Q I r ⟨p, vs, rfl, .inl ⟨sq, new_tup rh rs k⟩⟩
  · cases e
end

/-! ### subscripts -/
def ixO : F2
  | .tup ds, .int i, S => (atI ds i).map fun d => (d, S)
  | .str x, .int i, S => if x.length ≤ lim then (atI x i).map fun c => (.str [c], S) else none
  | .ref n, .int i, S => ((lstAt S n).bind fun xs => atI xs i).map fun d => (d, S)
  | _, _, _ => none
def IxA (X : Cx) (f : F2) : Prop :=
  IxR X (fun x y H Q => ∃ φ S a b d S', RH X.K φ H S ∧ RV X.K φ H a x ∧ RV X.K φ H b y ∧ f a b S = some (d, S') ∧ ∀ φ' H' v, Ext X.K φ H φ' H' → RH X.K φ' H' S' → RV X.K φ' H' d v → Q v H')
theorem atI_rel {K : PySem.W.Frag} {φ : List Addr} {H : Hp} {ds : List D} {vs : List V} {i : Int} {d : D} (r : RVs K φ H ds vs) (e : atI ds i = some d) : ∃ v, atI vs i = some v ∧ RV K φ H d v := by
  unfold atI at e ⊢
  rw [← r.length]
  obtain ⟨j, e1, e2⟩ := bindO e
  obtain ⟨v, e3, h⟩ := r.get e2
  exact ⟨v, by rw [e1]; exact e3, h⟩
section
variable {X : Cx} {W : WX} {a b : Expr} {Fa Fb : EF} {pos : Pos}
theorem ix_seqA : IxA X ixO := by
  intro value slice pins s σ H x y v u Q I rx ry h hs
  obtain ⟨φ, S, a, b, d, S', rh, ra, rb, e, k⟩ := h
  unfold ixO at e
  split at e
  · obtain ⟨d', e1, e2⟩ := mapOpt e
    cases e2
    obtain ⟨p, vs, rfl, sq, rs⟩ := ra.tup_
    obtain ⟨w, e3, rw'⟩ := atI_rel rs e1
    exact L2.ix_tup value slice pins s σ H _ y v u Q I rx ry ⟨p, vs, _, w, rfl, rb.int_, sq, e3, k φ H w .refl rh rw'⟩ hs
  · split at e
    · obtain ⟨d', e1, e2⟩ := mapOpt e
      cases e2
      rename_i z i hl
      exact L2.ix_str value slice pins s σ H _ y v u Q I rx ry ⟨toS z, i, d', ra.str_, rb.int_, by rw [toS_len, lim_eq]; exact hl, by simpa [toS] using e1, k φ H _ .refl rh rv_str⟩ hs
    · cases e
  · obtain ⟨d', e1, e2⟩ := mapOpt e
    cases e2
    obtain ⟨xs, e3, e4⟩ := bindO e1
    obtain ⟨p, vs, rfl, sq, rs⟩ := lstAt_ok rh e3 ra
    obtain ⟨w, e5, rw'⟩ := atI_rel rs e4
    exact L2.ix_list value slice pins s σ H _ y v u Q I rx ry ⟨p, vs, _, w, rfl, rb.int_, sq, e5, k φ H w .refl rh rw'⟩ hs
  · cases e
theorem ae_ixA {f : F2} (hr : IxA X f) (ha : AE X W a Fa) (hb : AE X W b Fb) (hs : PlainIx b := by exact fun _ _ => rfl) : AE X W (.Subscript a b pos) (eOp f Fa Fb) :=
  pe_mono (pe_ix hr ha hb hs) fun σ H Q h => op_run h
theorem ae_ix (ha : AE X W a Fa) (hb : AE X W b Fb) (hs : PlainIx b := by exact fun _ _ => rfl) : AE X W (.Subscript a b pos) (eOp ixO Fa Fb) := ae_ixA ix_seqA ha hb hs
end

/-! ### slices -/
def cutL {α : Type} (xs : List α) (lo hi : Option Int) : List α := (xs.drop (HT.sIx xs.length 0 lo)).take (HT.sIx xs.length xs.length hi - HT.sIx xs.length 0 lo)
abbrev PF := Env → Store → Res (Option Int)
def pNone : PF := fun _ S => .ok none S
def pSome (a : EF) : PF := fun ρ S => (a ρ S).bind fun x S1 => match x with
  | .int i => .ok (some i) S1
  | _ => .stuck
def sliceO (x : D) (lo hi : Option Int) (S : Store) : Option (D × Store) := match x with
  | .tup ds => some (.tup (cutL ds lo hi), S)
  | .str z => if z.length ≤ lim then some (.str (cutL z lo hi), S) else none
  | .ref n => (lstAt S n).map fun xs => (.ref S.length, S ++ [.lst (cutL xs lo hi)])
  | _ => none
def eSl (a : EF) (lo hi : PF) : EF := fun ρ S => (a ρ S).bind fun x S1 => (lo ρ S1).bind fun l S2 => (hi ρ S2).bind fun u S3 => .of (sliceO x l u S3)
theorem cutL_rel {K : PySem.W.Frag} {φ : List Addr} {H : Hp} {ds : List D} {vs : List V} {lo hi : Option Int} (r : RVs K φ H ds vs) : RVs K φ H (cutL ds lo hi) (cutV vs lo hi) := by
  unfold cutL cutV
  rw [r.length]
  exact (r.drop _).take _
section
variable {X : Cx} {W : WX} {a : Expr} {lo hi : Option Expr} {Fa : EF} {Fl Fu : PF} {pos p2 : Pos}
def tFO (K : PySem.W.Frag) (W : WX) (F : PF) : TO := fun σ H Q => ∃ φ ρ S, RH K φ H S ∧ RL K φ H σ ρ ∧ match F ρ S with
  | .ok o S' => ∀ φ' H', Ext K φ H φ' H' → RH K φ' H' S' → Q o H'
  | .exc x S' => ∀ φ' H' cv dx, Ext K φ H φ' H' → RH K φ' H' S' → RX K φ' H' x cv dx → W cv dx σ H'
  | .stuck => False
def AO (X : Cx) (W : WX) (e : Option Expr) (F : PF) : Prop := PO X e (tFO X.K W F)
theorem po_mono {e : Option Expr} {t t' : TO} (h : PO X e t) (i : ∀ σ H Q, t' σ H Q → t σ H Q) : PO X e t' := ⟨fun pins s σ H Q I q => h.run pins s σ H Q I (i σ H Q q)⟩
theorem ao_none : AO X W none pNone := po_mono po_none fun σ H Q ⟨φ, ρ, S, rh, rl, f⟩ => f φ H .refl rh
theorem ao_some (ha : AE X W a Fa) : AO X W (some a) (pSome Fa) := by
  refine po_mono (po_some ha) fun σ H Q ⟨φ, ρ, S, rh, rl, f⟩ => ⟨φ, ρ, S, rh, rl, ?_⟩
  unfold pSome at f
  cases z : Fa ρ S with
  | ok d S1 =>
    rw [z] at f
    intro φ1 H1 v e1 rh1 rv1
    cases d with
    | int i => exact ⟨i, rv1.int_, f φ1 H1 e1 rh1⟩
    | _ => exact f.elim
  | exc x S1 => rw [z] at f; exact f
  | stuck => rw [z] at f; exact f
theorem ae_sl (ha : AE X W a Fa) (hl : AO X W lo Fl) (hu : AO X W hi Fu) : AE X W (.Subscript a (.Slice lo hi none p2) pos) (eSl Fa Fl Fu) := by
  refine pe_mono (pe_slice (sl_list.or (sl_tupA.or sl_str)) ha hl hu) fun σ H Q ⟨φ, ρ, S, rh, rl, f⟩ => ⟨φ, ρ, S, rh, rl, (Fin.bind f).imp ?_⟩
  rintro v H1 ⟨φ1, S1, d, e1, rh1, rv1, f1⟩
  refine ⟨φ1, ρ, S1, rh1, rl.ext e1, ?_⟩
  cases z : Fl ρ S1 with
  | stuck => rw [z] at f1; exact f1.elim
  | exc x S2 => rw [z] at f1; exact f1
  | ok l S2 =>
    rw [z] at f1
    intro φ2 H2 e2 rh2
    have f2 : Fin X.K W φ2 H2 σ ((Fu ρ S2).bind fun u S3 => .of (sliceO d l u S3)) Q := f1.ext e2
    refine ⟨φ2, ρ, S2, rh2, (rl.ext e1).ext e2, ?_⟩
    cases z2 : Fu ρ S2 with
    | stuck => rw [z2] at f2; exact f2.elim
    | exc x S3 => rw [z2] at f2; exact f2
    | ok u S3 =>
      rw [z2] at f2
      intro φ3 H3 e3 rh3
      have f3 : Fin X.K W φ3 H3 σ (.of (sliceO d l u S3)) Q := f2.ext e3
      obtain ⟨d', S', e, k⟩ := fin_of f3
      have rv := (rv1.ext e2).ext e3
      unfold sliceO at e
      split at e
      · cases e
        obtain ⟨p, vs, rfl, sq, rs⟩ := rv.tup_
        refine .inr (.inl ⟨p, vs, rfl, sq, fun hw => ?_, fun hw q hq => new_tup rh3 (cutL_rel rs) k q hq⟩)
        refine k φ3 H3 _ .refl rh3 (rv_tup sq ?_)
        have := cutL_rel (lo := l) (hi := u) rs
        have e4 : cutV vs l u = vs := by
          unfold cutV
          rw [hw.1, hw.2, List.drop_zero, Nat.sub_zero, List.take_length]
        rw [e4] at this
        exact this
      · split at e
        · cases e
          rename_i z hl
          refine .inr (.inr ⟨toS z, rv.str_, by rw [toS_len, lim_eq]; exact hl, ?_⟩)
          have : cutS (toS z) l u = toS (cutL z l u) := by
            unfold cutS cutL
            rw [toS_len]
          rw [this]
          exact k φ3 H3 _ .refl rh3 rv_str
        · cases e
      · obtain ⟨xs, e4, e5⟩ := mapOpt e
        cases e5
        obtain ⟨p, vs, rfl, sq, rs⟩ := lstAt_ok rh3 e4 rv
        exact .inl ⟨p, vs, rfl, sq, new_list rh3 (cutL_rel rs) k⟩
      · cases e
end
end Al

set_option Elab.async false
set_option linter.all false
set_option maxRecDepth 100000
set_option maxHeartbeats 1000000
/-! Al: statements, loops, comprehensions. -/
namespace Al
open PySem PySem.Spec PyProof.Rows L2
def sNx : SF := fun ρ S => .ok (.nx ρ) S
def sSeq (a b : SF) : SF := fun ρ S => (a ρ S).bind fun o S1 => match o with
  | .nx ρ' => b ρ' S1
  | o => .ok o S1
def sExpr (a : EF) : SF := fun ρ S => (a ρ S).bind fun _ S1 => .ok (.nx ρ) S1
def sRet (a : EF) : SF := fun ρ S => (a ρ S).bind fun d S1 => .ok (.ret d) S1
def sRetN : SF := fun _ S => .ok (.ret .non) S
def sBk : SF := fun ρ S => .ok (.bk ρ) S
def sCt : SF := fun ρ S => .ok (.ct ρ) S
def sIf (t : TF) (a b : SF) : SF := fun ρ S => (t ρ S).bind fun c S1 => if c = true then a ρ S1 else b ρ S1
def sSet (i : Nat) (a : EF) : SF := fun ρ S => (a ρ S).bind fun d S1 => .ok (.nx (ρ.set i (some d))) S1
theorem RL.set {K : PySem.W.Frag} {φ : List Addr} {H : Hp} {σ : St} {ρ : Env} {d : D} {v : V} (i : Nat) (h : RL K φ H σ ρ) (r : RV K φ H d v) : RL K φ H (σ.set i (some v)) (ρ.set i (some d)) := by
  refine ⟨by simp [h.1], fun j d' e => ?_⟩
  by_cases hj : i = j
  · subst hj
    by_cases hl : i < ρ.length
    · rw [List.getElem?_set_self hl] at e
      cases e
      exact ⟨v, List.getElem?_set_self (by rw [h.1]; exact hl), r⟩
    · rw [List.getElem?_eq_none (by simpa using hl)] at e
      cases e
  · rw [List.getElem?_set_ne hj] at e
    obtain ⟨w, e1, r1⟩ := h.2 j d' e
    exact ⟨w, by rw [List.getElem?_set_ne hj]; exact e1, r1⟩
section
variable {X : Cx} {W : WX} {st : Stmt} {sts a b : List Stmt} {F G : SF} {e c : Expr} {Fe : EF} {Tc : TF} {pos : Pos}
theorem FinS.nx_of {K : PySem.W.Frag} {φ : List Addr} {H : Hp} {σ : St} {ρ : Env} {S : Store} {E : Ends} (f : FinS K W φ H (.ok (.nx ρ) S) E) (rh : RH K φ H S) (rl : RL K φ H σ ρ) : E.nx σ H := f φ H σ .refl rh rl
theorem ass_nil : ASs X W [] sNx := pss_mono pss_nil fun D σ H ⟨φ, ρ, S, rh, rl, f⟩ => FinS.nx_of f rh rl
theorem ass_cons (h1 : AS X W st F) (h2 : ASs X W sts G) : ASs X W (st :: sts) (sSeq F G) := by
  refine pss_mono (pss_cons h1 h2) fun D σ H ⟨φ, ρ, S, rh, rl, f⟩ => ⟨φ, ρ, S, rh, rl, ?_⟩
  unfold sSeq at f
  cases z : F ρ S with
  | stuck => rw [z] at f; exact f
  | exc x S1 => rw [z] at f; exact f
  | ok o S1 =>
    rw [z] at f
    cases o with
    | nx ρ' => exact fun φ' H' σ' x rh' rl' => ⟨φ', ρ', S1, rh', rl', FinS.ext f x⟩
    | ret d => exact f
    | bk ρ' => exact f
    | ct ρ' => exact f
theorem ass_one (h1 : AS X W st F) : ASs X W [st] F := pss_one h1
theorem as_pass : AS X W (.Pass pos) sNx := ps_mono ps_pass fun D σ H ⟨φ, ρ, S, rh, rl, f⟩ => FinS.nx_of f rh rl
theorem as_break : AS X W (.Break pos) sBk := ps_mono ps_break fun D σ H ⟨φ, ρ, S, rh, rl, f⟩ => f φ H σ .refl rh rl
theorem as_continue : AS X W (.Continue pos) sCt := ps_mono ps_continue fun D σ H ⟨φ, ρ, S, rh, rl, f⟩ => f φ H σ .refl rh rl
theorem as_expr (he : AE X W e Fe) (hs : swapsWith e none pos.line X.env = pure false := by rfl) : AS X W (.Expr e pos) (sExpr Fe) := by
  refine ps_mono (ps_expr he hs) fun D σ H ⟨φ, ρ, S, rh, rl, f⟩ => ⟨φ, ρ, S, rh, rl, (Fin.bindS trivial f).imp ?_⟩
  rintro v H1 ⟨φ1, S1, d, e1, rh1, rv1, f1⟩
  exact FinS.nx_of f1 rh1 (rl.ext e1)
theorem as_ret (he : AE X W e Fe) : AS X W (.Return (some e) pos) (sRet Fe) := by
  refine ps_mono (ps_ret he) fun D σ H ⟨φ, ρ, S, rh, rl, f⟩ => ⟨φ, ρ, S, rh, rl, (Fin.bindS trivial f).imp ?_⟩
  rintro v H1 ⟨φ1, S1, d, e1, rh1, rv1, f1⟩
  exact f1 φ1 H1 v .refl rh1 rv1
theorem as_retN : AS X W (.Return none pos) sRetN := ps_mono ps_retN fun D σ H ⟨φ, ρ, S, rh, rl, f⟩ => f φ H _ .refl rh rv_non
theorem as_if (hc : AT X W c Tc) (ha : ASs X W a F) (hb : ASs X W b G) : AS X W (.If c a b pos) (sIf Tc F G) := by
  refine ps_mono (ps_if hc ha hb) fun D σ H ⟨φ, ρ, S, rh, rl, f⟩ => ⟨φ, ρ, S, rh, rl, (FinT.bindS f).imp ?_⟩
  rintro k H1 ⟨φ1, S1, e1, rh1, f1⟩
  cases k with
  | true => rw [if_pos rfl] at f1 ⊢; exact ⟨φ1, ρ, S1, rh1, rl.ext e1, f1⟩
  | false => rw [if_neg Bool.false_ne_true] at f1 ⊢; exact ⟨φ1, ρ, S1, rh1, rl.ext e1, f1⟩
theorem as_set (i : Nat) {x : Str} {pos' : Pos} (hN : X.N.Nodup) (he : AE X W e Fe) (hi : X.N[i]? = some x := by rfl) (hx : Loc X.env.scope x := by first | exact .inl rfl | exact .inr rfl) (hs : swapsWith e (some (.Name x pos')) pos.line X.env = pure false := by rfl)
    (hf : X.fn x = true ∨ X.env.scope.names.lookup x = some .local := by first | exact .inl rfl | exact .inr rfl | assumption) : AS X W (.Assign [.Name x pos'] e pos) (sSet i Fe) := by
  refine ps_mono (ps_set hN hi hx he hs hf) fun D σ H ⟨φ, ρ, S, rh, rl, f⟩ => ⟨φ, ρ, S, rh, rl, (Fin.bindS trivial f).imp ?_⟩
  rintro v H1 ⟨φ1, S1, d, e1, rh1, rv1, f1⟩
  exact FinS.nx_of f1 rh1 ((rl.ext e1).set i rv1)
/-- code that is not met -/
def sNever : SF := fun _ _ => .stuck
theorem as_never : AS X W st sNever := ps_mono ps_never fun D σ H ⟨φ, ρ, S, rh, rl, f⟩ => f
theorem ass_never : ASs X W sts sNever := pss_mono pss_never fun D σ H ⟨φ, ρ, S, rh, rl, f⟩ => f
end

/-! ### targets: a name, or a tuple of names -/
inductive Tg where
  | nm (i : Nat) | tp (is : List Nat)
def setAll : List Nat → List D → Env → Env
  | i :: is, d :: ds, ρ => setAll is ds (ρ.set i (some d))
  | _, _, ρ => ρ
def tgD : Tg → D → Env → Option Env
  | .nm i, d, ρ => some (ρ.set i (some d))
  | .tp is, .tup ds, ρ => if ds.length = is.length then some (setAll is ds ρ) else none
  | _, _, _ => none
def gNames : List Nat → TGs
  | [] => gNil
  | i :: is => gCons (gName i) (gNames is)
def tgV (K : PySem.W.Frag) : Tg → TG
  | .nm i => gName i
  | .tp is => gTup K is.length (gNames is)
def Tg.slots : Tg → List Nat
  | .nm i => [i]
  | .tp is => is
/-- the target's judgement -/
def AG (X : Cx) (tg : Expr) (t : Tg) : Prop := PG X tg (tgV X.K t)
theorem wipe_set {σ : St} {i : Nat} {v : Option V} : ∀ {vs : List Nat}, i ∈ vs → wipe (σ.set i v) vs = wipe σ vs
  | j :: vs, h => by
    unfold wipe
    by_cases hj : j = i
    · subst hj
      by_cases hm : j ∈ vs
      · rw [wipe_set hm]
      · have : ∀ (vs : List Nat) (σ : St), j ∉ vs → (wipe (σ.set j v) vs) = (wipe σ vs).set j v := by
          intro vs
          induction vs with
          | nil => intro σ _; rfl
          | cons k ks ih =>
            intro σ hk
            unfold wipe
            rw [ih σ fun z => hk (List.mem_cons_of_mem _ z)]
            rw [List.set_comm _ _ (fun z => hk (by rw [z]; exact List.mem_cons_self))]
        rw [this vs σ hm, List.set_set]
    · rw [wipe_set (by
        rcases List.mem_cons.mp h with z | z
        · exact absurd z.symm hj
        · exact z)]
section
variable {X : Cx} {K : PySem.W.Frag} {φ : List Addr} {H : Hp}
theorem gNames_run : ∀ (is : List Nat) (ds : List D) (vs : List V) (σ : St) (ρ : Env) (Q : St → Hp → Prop), ds.length = is.length → RVs K φ H ds vs → RL K φ H σ ρ →
    (∀ σ', RL K φ H σ' (setAll is ds ρ) → (∀ ws, (∀ i ∈ is, i ∈ ws) → wipe σ' ws = wipe σ ws) → Q σ' H) → gNames is vs σ H Q
  | [], ds, vs, σ, ρ, Q, hl, r, rl, k => by
    cases ds with
    | nil =>
      cases r.nil_iff
      exact ⟨rfl, k σ rl fun _ _ => rfl⟩
    | cons _ _ => cases hl
  | i :: is, ds, vs, σ, ρ, Q, hl, r, rl, k => by
    cases ds with
    | nil => cases hl
    | cons d ds =>
      obtain ⟨v, rs, rfl, h1, h2⟩ := r.cons_iff
      refine ⟨v, rs, rfl, ?_⟩
      show gNames is rs (σ.set i (some v)) H Q
      refine gNames_run is ds rs _ (ρ.set i (some d)) Q (by simpa using hl) h2 (rl.set i h1) fun σ' rl' hw => k σ' rl' fun ws hws => ?_
      rw [hw ws fun j hj => hws j (List.mem_cons_of_mem _ hj)]
      exact wipe_set (hws i List.mem_cons_self)
theorem tgV_run {t : Tg} {d : D} {v : V} {σ : St} {ρ ρ' : Env} {Q : St → Hp → Prop} (e : tgD t d ρ = some ρ') (r : RV K φ H d v) (rl : RL K φ H σ ρ)
    (k : ∀ σ', RL K φ H σ' ρ' → (∀ ws, (∀ i ∈ t.slots, i ∈ ws) → wipe σ' ws = wipe σ ws) → Q σ' H) : tgV K t v σ H Q := by
  cases t with
  | nm i =>
    cases e
    exact k _ (rl.set i r) fun ws hw => wipe_set (hw i (by simp [Tg.slots]))
  | tp is =>
    cases d with
    | tup ds =>
      simp only [tgD] at e
      split at e
      · cases e
        rename_i hl
        obtain ⟨p, vs, rfl, sq, rs⟩ := r.tup_
        exact ⟨p, vs, rfl, sq, by rw [← rs.length]; exact hl, gNames_run is ds vs σ ρ Q hl rs rl k⟩
      · cases e
    | _ => cases e
variable {pos : Pos}
theorem ag_nm (i : Nat) {x : Str} (hN : X.N.Nodup) (hi : X.N[i]? = some x := by rfl) (hx : Loc X.env.scope x := by first | exact .inl rfl | exact .inr rfl) (hf : X.fn x = true ∨ X.env.scope.names.lookup x = some .local := by first | exact .inl rfl | exact .inr rfl | assumption) : AG X (.Name x pos) (.nm i) := pg_name hN hi hx hf
theorem ag_tp {es : List Expr} {k : Nat} {is : List Nat} (hc : X.calm = true) (h : PGs X es (gNames is)) (hn : (assignEach es X.env).length = is.length := by rfl) (hst : (assignEach es X.env).findIdx? (·.1) = none := by rfl) : AG X (.Tuple es k pos) (.tp is) := pg_tup hc h hn hst
end
/-- target = value -/
def sAsg (t : Tg) (a : EF) : SF := fun ρ S => (a ρ S).bind fun d S1 => match tgD t d ρ with
  | some ρ' => .ok (.nx ρ') S1
  | none => .stuck
theorem as_asg {X : Cx} {W : WX} {tg e : Expr} {Fe : EF} {t : Tg} {pos : Pos} (he : AE X W e Fe) (hg : AG X tg t) (hs : swapsWithSole [tg] e pos.line X.env = pure false := by rfl) (hw : swappedStores [tg] e X.env = pure none := by rfl)
    (h1 : (assignEach [tg] X.env).map (·.2) = [assign tg X.env] := by rfl) : AS X W (.Assign [tg] e pos) (sAsg t Fe) := by
  refine ps_mono (ps_asg he hg hs hw h1) fun D σ H ⟨φ, ρ, S, rh, rl, f⟩ => ⟨φ, ρ, S, rh, rl, (Fin.bindS trivial f).imp ?_⟩
  rintro v H1 ⟨φ1, S1, d, e1, rh1, rv1, f1⟩
  split at f1
  · rename_i ρ' er
    exact tgV_run er rv1 (rl.ext e1) fun σ' rl' _ => FinS.nx_of f1 rh1 rl'
  · exact f1.elim
/-- a, b = x, y with plain local names -/
def sPar (i j : Nat) (a : AF) : SF := fun ρ S => (a ρ S).bind fun ds S1 => match ds with
  | [x, y] => .ok (.nx ((ρ.set i (some x)).set j (some y))) S1
  | _ => .stuck
theorem FinA.bindS {K : PySem.W.Frag} {W : WX} {φ : List Addr} {H : Hp} {σ : St} {r : Res (List D)} {g : List D → Store → Res Out} {E : Ends} (h : FinS K W φ H (r.bind g) E) : FinA K W φ H σ r fun v H1 => AftA K φ H v H1 fun φ1 d S1 => FinS K W φ1 H1 (g d S1) E := by
  cases r with
  | ok d S => exact fun φ' H' v x y z => ⟨φ', S, d, x, y, z, h.ext x⟩
  | exc x S => exact fun φ' H' cv dx => h φ' H' cv dx σ
  | stuck => exact h
theorem as_par {X : Cx} {W : WX} {i j : Nat} {x y : Str} {a b : Expr} {Fr : AF} {px py pt pos : Pos} {kt k2 pt2} (hc : X.calm = true) (hN : X.N.Nodup) (ha : AA X W [a, b] Fr) (hi : X.N[i]? = some x := by rfl) (hj : X.N[j]? = some y := by rfl) (hij : i ≠ j := by decide)
    (hx : X.env.scope.names.lookup x = some .local := by rfl) (hy : X.env.scope.names.lookup y = some .local := by rfl)
    (hw : swappedStores [.Tuple [.Name x px, .Name y py] kt pt] (.Tuple [a, b] k2 pt2) X.env = pure (some [x, y]) := by rfl)
    (hs : swapsWithSole [.Tuple [.Name x px, .Name y py] kt pt] (.Tuple [a, b] k2 pt2) pos.line X.env = pure false := by rfl) :
    AS X W (.Assign [.Tuple [.Name x px, .Name y py] kt pt] (.Tuple [a, b] k2 pt2) pos) (sPar i j Fr) := by
  refine ps_mono (ps_par hc hN hi hj hij hx hy ha hw hs) fun D σ H ⟨φ, ρ, S, rh, rl, f⟩ => ⟨φ, ρ, S, rh, rl, (FinA.bindS f).imp ?_⟩
  rintro vs H1 ⟨φ1, S1, ds, e1, rh1, rv1, f1⟩
  split at f1
  · obtain ⟨v, w, rfl, r1, r2⟩ := rvs2 rv1
    exact ⟨v, w, rfl, FinS.nx_of f1 rh1 (((rl.ext e1).set i r1).set j r2)⟩
  · exact f1.elim
/-- name += e and so on -/
def sAug (i : Nat) (f : F2) (a : EF) : SF := fun ρ S => match ρ[i]? with
  | some (some x) => (a ρ S).bind fun y S1 => (Res.of (f x y S1)).bind fun z S2 => .ok (.nx (ρ.set i (some z))) S2
  | _ => .stuck
theorem as_aug (i : Nat) {X : Cx} {W : WX} {x : Str} {e : Expr} {Fe : EF} {op : Operator} {f : F2} {pos pos' : Pos} (hN : X.N.Nodup) (ho : OpA X (inplaceOp op) f) (he : AE X W e Fe) (hi : X.N[i]? = some x := by rfl) (hx : Loc X.env.scope x := by first | exact .inl rfl | exact .inr rfl)
    (hf : X.fn x = true ∨ X.env.scope.names.lookup x = some .local := by first | exact .inl rfl | exact .inr rfl | assumption) : AS X W (.AugAssign (.Name x pos') op e pos) (sAug i f Fe) := by
  refine ps_mono (ps_aug hN hi hx he ho hf) fun D σ H ⟨φ, ρ, S, rh, rl, fi⟩ => ?_
  unfold sAug at fi
  split at fi
  · rename_i d ed
    obtain ⟨v, e1, r1⟩ := rl.2 i d ed
    refine ⟨v, e1, φ, ρ, S, rh, rl, (Fin.bindS trivial fi).imp ?_⟩
    rintro y H1 ⟨φ1, S1, d1, x1, rh1, rv1, f1⟩
    have f1' : Fin X.K W φ1 H1 σ (.of (f d d1 S1)) _ := Fin.bindS trivial f1
    obtain ⟨d2, S2, e2, k2⟩ := fin_of f1'
    refine ⟨φ1, S1, d, d1, d2, S2, rh1, r1.ext x1, rv1, e2, fun φ2 H2 z x2 rh2 rv2 => ?_⟩
    obtain ⟨φ3, S3, d3, x3, rh3, rv3, f3⟩ := k2 φ2 H2 z x2 rh2 rv2
    exact FinS.nx_of f3 rh3 ((((rl.ext x1).ext x3)).set i rv3)
  · exact fi.elim
def iaddO : F2
  | .int i, .int j, S => some (.int (i + j), S)
  | .str a, .str b, S => if a.length + b.length ≤ lim then some (.str (a ++ b), S) else none
  | _, _, _ => none
def isubO : F2
  | .int i, .int j, S => some (.int (i - j), S)
  | _, _, _ => none
theorem op_iaddA {X : Cx} : OpA X (inplaceOp .Add) iaddO := by
  intro pins s σ H x y v u Q I rx ry h
  obtain ⟨φ, S, a, b, d, S', rh, ra, rb, e, k⟩ := h
  unfold iaddO at e
  split at e
  · cases e; exact L2.iop_add pins s σ H x y v u Q I rx ry ⟨_, _, ra.int_, rb.int_, k φ H _ .refl rh rv_int⟩
  · split at e
    · cases e
      rename_i hl
      refine L2.iop_add_str pins s σ H x y v u Q I rx ry ⟨_, _, ra.str_, rb.str_, by rw [toS_len, toS_len, lim_eq]; exact hl, ?_⟩
      rw [toS_app]
      exact k φ H _ .refl rh rv_str
    · cases e
  · cases e
theorem op_isubA {X : Cx} : OpA X (inplaceOp .Sub) isubO := by
  intro pins s σ H x y v u Q I rx ry h
  obtain ⟨φ, S, a, b, d, S', rh, ra, rb, e, k⟩ := h
  unfold isubO at e
  split at e
  · cases e; exact L2.iop_sub pins s σ H x y v u Q I rx ry ⟨_, _, ra.int_, rb.int_, k φ H _ .refl rh rv_int⟩
  · cases e

/-! ### what is walked -/
structure Src where
  fuel : Nat
  nxt : Nat → Store → Option (Option D)
abbrev IF := Env → Store → Res Src
def SrcOk (K : PySem.W.Frag) (φ : List Addr) (H : Hp) (J : It) (nxt : Nat → Store → Option (Option D)) : Prop :=
  ∀ i φ1 H1 S1, Ext K φ H φ1 H1 → RH K φ1 H1 S1 →
    (∀ d, nxt i S1 = some (some d) → J.go i H1 ∧ ∀ x H', J.yld i H1 x H' → Ext K φ1 H1 φ1 H' ∧ RH K φ1 H' S1 ∧ RV K φ1 H' d x) ∧ (nxt i S1 = some none → J.stop i H1)
def tFI (K : PySem.W.Frag) (W : WX) (F : IF) : TI := fun σ H R => ∃ φ ρ S, RH K φ H S ∧ RL K φ H σ ρ ∧ match F ρ S with
  | .ok src S' => ∀ φ' H' J, Ext K φ H φ' H' → RH K φ' H' S' → SrcOk K φ' H' J src.nxt → R J H'
  | .exc x S' => ∀ φ' H' cv dx, Ext K φ H φ' H' → RH K φ' H' S' → RX K φ' H' x cv dx → W cv dx σ H'
  | .stuck => False
def AI (X : Cx) (W : WX) (tg iter : Expr) (F : IF) : Prop := PI X tg iter (tFI X.K W F)
theorem pi_mono {X : Cx} {tg iter : Expr} {t t' : TI} (h : PI X tg iter t) (i : ∀ σ H R, t' σ H R → t σ H R) : PI X tg iter t' := ⟨fun pins s σ H R I q => h.run pins s σ H R I (i σ H R q)⟩
/-- the turns -/
def forF (nxt : Nat → Store → Option (Option D)) (t : Tg) (body : SF) : Nat → Nat → Env → Store → Res Out
  | 0, _, _, _ => .stuck
  | n + 1, i, ρ, S => match nxt i S with
    | none => .stuck
    | some none => .ok (.nx ρ) S
    | some (some d) => match tgD t d ρ with
      | none => .stuck
      | some ρ1 => (body ρ1 S).bind fun o S1 => match o with
        | .nx ρ2 => forF nxt t body n (i + 1) ρ2 S1
        | .ct ρ2 => forF nxt t body n (i + 1) ρ2 S1
        | .bk ρ2 => .ok (.nx ρ2) S1
        | .ret d => .ok (.ret d) S1
def sFor (it : IF) (t : Tg) (body : SF) : SF := fun ρ S => (it ρ S).bind fun src S1 => forF src.nxt t body src.fuel 0 ρ S1
section
variable {X : Cx} {W : WX} {tg iter : Expr} {body : List Stmt} {Fi : IF} {t : Tg} {Fb : SF} {pos : Pos}
theorem as_for (hp : PassesOwn (model X.prog X.w) X.A X.env X.xe) (hc : X.calm = true) (hi : AI X W tg iter Fi) (hg : AG X tg t) (hb : ASs X W body Fb) (hs : ∀ x, foldedSetIterable iter X.env x = pure x := by intro _; rfl) : AS X W (.For tg iter body [] pos) (sFor Fi t Fb) := by
  refine ps_mono (ps_for hp hc hi hg hb hs) fun D σ H ⟨φ, ρ, S, rh, rl, f⟩ => ⟨φ, ρ, S, rh, rl, ?_⟩
  unfold sFor at f
  cases z : Fi ρ S with
  | stuck => rw [z] at f; exact f.elim
  | exc x S1 => rw [z] at f; exact fun φ' H' cv dx => f φ' H' cv dx σ
  | ok src S1 =>
    rw [z] at f
    intro φ' H' J x rh' ok
    have f : FinS X.K W φ H (forF src.nxt t Fb src.fuel 0 ρ S1) D := f
    refine ⟨fun i m σ1 H1 => ∃ φ1 ρ1 S1, Ext X.K φ' H' φ1 H1 ∧ RH X.K φ1 H1 S1 ∧ RL X.K φ1 H1 σ1 ρ1 ∧ FinS X.K W φ1 H1 (forF src.nxt t Fb m i ρ1 S1) D, ⟨src.fuel, φ', ρ, S1, .refl, rh', rl.ext x, f.ext x⟩, ?_⟩
    rintro i m σ1 H1 ⟨φ1, ρ1, S2, x1, rh1, rl1, f1⟩
    cases m with
    | zero => exact f1.elim
    | succ n =>
      have o := ok i φ1 H1 S2 x1 rh1
      unfold forF at f1
      split at f1
      · exact f1.elim
      · rename_i e
        exact .inl ⟨o.2 e, FinS.nx_of f1 rh1 rl1⟩
      · rename_i d e
        have o := o.1 d e
        refine .inr ⟨o.1, fun σ' H'' => ∃ φ1 ρ1 S1, Ext X.K φ' H' φ1 H'' ∧ RH X.K φ1 H'' S1 ∧ RL X.K φ1 H'' σ' ρ1 ∧ FinS X.K W φ1 H'' (forF src.nxt t Fb n (i + 1) ρ1 S1) D, fun σ' H'' h => ⟨n, Nat.lt_succ_self n, h⟩, fun xv H2 y => ?_⟩
        obtain ⟨x2, rh2, rv2⟩ := o.2 xv H2 y
        split at f1
        · exact f1.elim
        · rename_i ρ2 er
          refine tgV_run er rv2 (rl1.ext x2) fun σ3 rl3 _ => ⟨φ1, ρ2, S2, rh2, rl3, ?_⟩
          have f2 := f1.ext x2
          cases zb : Fb ρ2 S2 with
          | stuck => rw [zb] at f2; exact f2.elim
          | exc xx S3 => rw [zb] at f2; exact f2
          | ok ou S3 =>
            rw [zb] at f2
            cases ou with
            | nx ρ3 => exact fun φ4 H4 σ4 x4 rh4 rl4 => ⟨φ4, ρ3, S3, (x1.trans x2).trans x4, rh4, rl4, FinS.ext f2 x4⟩
            | ct ρ3 => exact fun φ4 H4 σ4 x4 rh4 rl4 => ⟨φ4, ρ3, S3, (x1.trans x2).trans x4, rh4, rl4, FinS.ext f2 x4⟩
            | bk ρ3 => exact f2
            | ret d => exact f2
end

/-! ### while -/
def whileF (c : TF) (body : SF) : Nat → Env → Store → Res Out
  | 0, _, _ => .stuck
  | n + 1, ρ, S => (c ρ S).bind fun b S1 => if b = true then (body ρ S1).bind fun o S2 => match o with
      | .nx ρ2 => whileF c body n ρ2 S2
      | .ct ρ2 => whileF c body n ρ2 S2
      | .bk ρ2 => .ok (.nx ρ2) S2
      | .ret d => .ok (.ret d) S2
    else .ok (.nx ρ) S1
/-- at most so many turns -/
abbrev turns : Nat := 1000000
def sWhile (c : TF) (body : SF) : SF := fun ρ S => whileF c body turns ρ S
theorem as_while {X : Cx} {W : WX} {c : Expr} {body : List Stmt} {Tc : TF} {Fb : SF} {pos : Pos} (hp : PassesOwn (model X.prog X.w) X.A X.env X.xe) (hc : AT X W c Tc) (hb : ASs X W body Fb) : AS X W (.While c body [] pos) (sWhile Tc Fb) := by
  refine ps_mono (ps_while hp hc hb) fun D σ H ⟨φ, ρ, S, rh, rl, f⟩ => ?_
  refine ⟨fun m σ1 H1 => ∃ φ1 ρ1 S1, RH X.K φ1 H1 S1 ∧ RL X.K φ1 H1 σ1 ρ1 ∧ FinS X.K W φ1 H1 (whileF Tc Fb m ρ1 S1) D, ⟨turns, φ, ρ, S, rh, rl, f⟩, ?_⟩
  rintro m σ1 H1 ⟨φ1, ρ1, S1, rh1, rl1, f1⟩
  cases m with
  | zero => exact f1.elim
  | succ n =>
    unfold whileF at f1
    refine ⟨φ1, ρ1, S1, rh1, rl1, (FinT.bindS f1).imp ?_⟩
    rintro k H2 ⟨φ2, S2, x2, rh2, f2⟩
    cases k with
    | false => rw [if_neg Bool.false_ne_true] at f2 ⊢; exact FinS.nx_of f2 rh2 (rl1.ext x2)
    | true =>
      rw [if_pos rfl] at f2 ⊢
      refine ⟨fun σ' H'' => ∃ φ1 ρ1 S1, RH X.K φ1 H'' S1 ∧ RL X.K φ1 H'' σ' ρ1 ∧ FinS X.K W φ1 H'' (whileF Tc Fb n ρ1 S1) D, fun σ' H'' h => ⟨n, Nat.lt_succ_self n, h⟩, φ2, ρ1, S2, rh2, rl1.ext x2, ?_⟩
      cases zb : Fb ρ1 S2 with
      | stuck => rw [zb] at f2; exact f2.elim
      | exc xx S3 => rw [zb] at f2; exact f2
      | ok ou S3 =>
        rw [zb] at f2
        cases ou with
        | nx ρ3 => exact fun φ4 H4 σ4 x4 rh4 rl4 => ⟨φ4, ρ3, S3, rh4, rl4, FinS.ext f2 x4⟩
        | ct ρ3 => exact fun φ4 H4 σ4 x4 rh4 rl4 => ⟨φ4, ρ3, S3, rh4, rl4, FinS.ext f2 x4⟩
        | bk ρ3 => exact f2
        | ret d => exact f2
end Al

set_option Elab.async false
set_option linter.all false
set_option maxRecDepth 100000
set_option maxHeartbeats 1000000
/-! Al: what is walked. -/
namespace Al
open PySem PySem.Spec PyProof.Rows L2
open Sem (wp)
/-! ### enumerate(v) -/
theorem meets_enum1 {v : Value} {o : Obj} {H : Heap → Prop} (B : Begins v o H) :
    Meets (Builtin.«enumerate.__new__» ⟨[.type "enumerate", v], []⟩) (fun _ R s => H s.heap ∧
      R (.ok (.ret (.ref (s.heap.push o).objs.size))) { s with heap := (s.heap.push o).push { cls := .type "enumerate", data := .fields #[.none, .bool false, .ref s.heap.objs.size, rawInt 0, .none, .none] } }) :=
  .of_wp fun prog w A R s h => by
    obtain ⟨hp, g, d, tk, os⟩ := s; obtain ⟨h1, h⟩ := h
    have hsub := sub_enumerate
    have q1 : ∀ {A' : Around} {E : Value → Shared → Prop} {Q : Value → Shared → Prop}, Q (.ref hp.objs.size) ⟨hp.push o, g, d, tk, os⟩ → wpAny (model prog w) A' (pyIter v) Q E ⟨hp, g, d, tk, os⟩ :=
      fun q => B.iter prog w _ _ ⟨hp, g, d, tk, os⟩ _ h1 q
    wp_walk using q1
    refine wpAny_stack_any fun st => wpAny_pure ?_
    split
    · rename_i c _ _ _ _ _
      cases (c == Value.type "enumerate")
      · wp_walk using q1
        exact ⟨_, rfl, h⟩
      · wp_walk using q1
        exact ⟨_, rfl, h⟩
    · wp_walk using q1
      exact ⟨_, rfl, h⟩
theorem enum_begins1 {prog : Program} {w : World} {A : Around} {E : Value → Shared → Prop} {s : Shared} {v : Value} {o : Obj} {H : Heap → Prop} {Q : Value → Shared → Prop} (B : Begins v o H) (h1 : H s.heap)
    (h : ∀ h', IsEnum h' (s.heap.objs.size + 1) s.heap.objs.size 0 .none → h'.get? s.heap.objs.size = some o → h'.objs.size = s.heap.objs.size + 2 →
      (∀ b o, s.heap.get? b = some o → h'.get? b = some o) → Q (.ref (s.heap.objs.size + 1)) { s with heap := h' }) :
    wpAny (model prog w) A (call (.type "enumerate") [v]) Q E s := by
  refine callType_new F.called_enumerate (by decide) (F.typeCall_enumerate_1 _) (F.newCall_enumerate_1 _) (fun obj => F.args_object_init_2 obj _) F.entry_enumerate_new
    (meets_enum1 B) ⟨h1, ?_⟩
  have hz : (s.heap.push o).objs.size = s.heap.objs.size + 1 := Heap.size_push ..
  show _ ∧ _
  rw [hz]
  have he : IsEnum ((s.heap.push o).push { cls := .type "enumerate", data := .fields #[.none, .bool false, .ref s.heap.objs.size, rawInt 0, .none, .none] }) (s.heap.objs.size + 1) s.heap.objs.size 0 .none := by
    have := Heap.get?_push_size (s.heap.push o) (o := { cls := .type "enumerate", data := .fields #[.none, .bool false, .ref s.heap.objs.size, rawInt 0, .none, .none] }) rfl
    rw [hz] at this; exact this
  refine ⟨⟨_, he, rfl⟩, h _ he (Heap.get?_push_of_some _ (Heap.get?_push_size _ B.free)) (by rw [Heap.size_push, hz]) fun b o x => Heap.get?_push_of_some _ (Heap.get?_push_of_some _ x)⟩

def IteT (K : PySem.W.Frag) (a : Addr) : It :=
  ⟨fun i H => ∃ xs x, SqT K H a xs ∧ xs[i]? = some x, fun i H v H' => ∃ T x, v = .ref T ∧ H T = none ∧ H' = upd H T (.tup [.int (i : Nat), x]) ∧ ∀ xs, SqT K H a xs → xs[i]? = some x, fun i H => ∃ xs, SqT K H a xs ∧ xs.length = i⟩
def IteS (z : Str) : It :=
  ⟨fun i H => i < z.cps.size, fun i H v H' => ∃ T c, v = .ref T ∧ H T = none ∧ H' = upd H T (.tup [.int (i : Nat), .str ⟨#[c]⟩]) ∧ z.cps[i]? = some c, fun i H => z.cps.size = i⟩
theorem turn_enumT {P : Program} {w : World} {K : PySem.W.Frag} {elts : List Expr} {kk : Nat} {tpos : Pos} (a e it : Addr) :
    Turn P w K (.Tuple elts kk tpos) (IteT K a) [e, it] e (fun i h => (∃ old, IsEnum h e it ((i : Nat) : Int) old) ∧ h.IsTupleIter it a i ∧ e ≠ it ∧ a ≠ it ∧ e ≠ a) where
  mem := by simp
  obj := fun i h st b hb => by
    obtain ⟨⟨old, he⟩, ⟨o, ho, hc, hd⟩, _⟩ := st
    have e' : b = e ∨ b = it := by simpa using hb
    rcases e' with z | z
    · rw [z]; exact ⟨_, he, fun v q => nomatch q⟩
    · rw [z]; exact ⟨o, ho, fun v q => by rw [hd] at q; cases q⟩
  keep := fun i h h' st k => let ⟨⟨old, he⟩, hi, hne⟩ := st; ⟨⟨old, k e (by simp) _ he⟩, hi.at fun o q => k it (by simp) o q, hne⟩
  item := by
    intro X hP hw hK hc i pins s σ H E I hf st hg
    subst hP hw hK
    obtain ⟨⟨old, he⟩, hit, hne, nai, nea⟩ := st
    obtain ⟨xs, x, hq, hx⟩ := hg
    obtain ⟨its, rv, p, hz⟩ := I.tuple hq
    obtain ⟨u, hu, ru⟩ := rv.get hx
    have hel : e < s.heap.objs.size := Heap.lt_size he
    have hil : it < s.heap.objs.size := by obtain ⟨_, q, _⟩ := hit; exact Heap.lt_size q
    have Dr := Draws.tuple (prog := X.prog) (w := X.w) (A := X.A.in1) (show X.A.in1.handled = none from I.ok.hd hc) it a nai its.toArray
    have hi : i < its.toArray.size := by
      have := (List.getElem?_eq_some_iff.mp hu).1
      simpa using this
    refine wpAny_pyNext_enum_itemD Dr he ⟨hit, p⟩ hi hne (by simp only [List.mem_cons, List.not_mem_nil, or_false, not_or]; exact ⟨hne, nea⟩) fun x' h' tk hP ho hit' hT hsz hk => ?_
    have hx' : x' = u := by
      have : its.toArray[i]? = some u := by simpa using hu
      exact Option.some.inj (hP.symm.trans this)
    subst hx'
    refine ⟨_, rfl, wpAny_letOwnedTupleGo_enum (s := { s with heap := h', toks := tk + 1 }) ho fun h'' he' sb => ?_⟩
    have hT2 : h''.get? s.heap.objs.size = some { cls := .type "tuple", data := .seq #[.int i tk, x'] } := (sb.2 _ (Nat.ne_of_gt hel)).trans hT
    have new : ObjOk X.prog X.w (upd H s.heap.objs.size (.tup [.int (i : Nat), x])) h'' s.heap.objs.size (.tup [.int (i : Nat), x]) :=
      ⟨by show 2 ≤ sizeLine; decide, [.int i tk, x'], .cons ⟨_, rfl⟩ (.cons ru .nil), ⟨_, hT2, rfl, _, rfl⟩⟩
    have I1 : Inv X pins σ (upd H s.heap.objs.size (.tup [.int (i : Nat), x])) { s with heap := h'', toks := tk + 1 } :=
      I.turnedNew (ch := [e, it]) (fun b ob hb q => (sb.2 b (fun z => hb (by simp [z]))).trans (hk b ob (fun z => hb (by simp [z])) (fun z => hb (by simp [z])) q)) hf (Nat.le_refl _) new
    refine ⟨.ref s.heap.objs.size, _, I1, rfl, ⟨_, x, rfl, I.hok.fresh (Nat.le_refl _), rfl, fun ys hy => by rw [I.tuple_inj hy hq]; exact hx⟩, ⟨⟨x', ?_⟩, hit'.1.at fun o q => (sb.2 it (Ne.symm hne)).trans q, hne, nai, nea⟩, fun b hb => ?_⟩
    · have e1 : ((i + 1 : Nat) : Int) = (i : Int) + 1 := by omega
      rw [e1]; exact he'
    · have hb' : b < s.heap.objs.size := by
        have e' : b = e ∨ b = it := by simpa using hb
        rcases e' with z | z
        · rw [z]; exact hel
        · rw [z]; exact hil
      rw [upd_ne (Nat.ne_of_lt hb')]
      exact (hf b hb).1
  done := by
    intro X hP hw hK hc i pins s σ H E I hf st hg
    subst hP hw hK
    obtain ⟨⟨old, he⟩, hit, hne, nai, nea⟩ := st
    obtain ⟨xs, hq, hx⟩ := hg
    obtain ⟨its, rv, p, hz⟩ := I.tuple hq
    obtain ⟨f0, f1, f2, f3, f4, f5⟩ := hf it (by simp)
    have hl := rv.length
    have Dr := Draws.tuple (prog := X.prog) (w := X.w) (A := X.A.in1) (show X.A.in1.handled = none from I.ok.hd hc) it a nai its.toArray
    have hn : its.toArray.size = i := by simp; omega
    exact wpAny_pyNext_enum_endD Dr he ⟨by rw [hn]; exact hit, p⟩ fun h' eb => ⟨rfl, I.turned (t' := s.toks) (fun b o hb q => eb b o hb q) f0 f1 f3 f4 f5⟩
  self := fun A i s Q E st h => let ⟨⟨_, he⟩, _⟩ := st; wpAny_pyIter_enum he h
theorem turn_enumS {P : Program} {w : World} {K : PySem.W.Frag} {elts : List Expr} {kk : Nat} {tpos : Pos} (z : Str) (t : Tok) (e it : Addr) :
    Turn P w K (.Tuple elts kk tpos) (IteS z) [e, it] e (fun i h => (∃ old, IsEnum h e it ((i : Nat) : Int) old) ∧ h.IsStrIter it (strIterType z) z t i ∧ e ≠ it) where
  mem := by simp
  obj := fun i h st b hb => by
    obtain ⟨⟨old, he⟩, ⟨o, ho, hc, hd⟩, _⟩ := st
    have e' : b = e ∨ b = it := by simpa using hb
    rcases e' with z | z
    · rw [z]; exact ⟨_, he, fun v q => nomatch q⟩
    · rw [z]; exact ⟨o, ho, fun v q => by rw [hd] at q; cases q⟩
  keep := fun i h h' st k => let ⟨⟨old, he⟩, ⟨o, ho, hcd⟩, hne⟩ := st; ⟨⟨old, k e (by simp) _ he⟩, ⟨o, k it (by simp) o ho, hcd⟩, hne⟩
  item := by
    intro X hP hw hK hc i pins s σ H E I hf st hg
    subst hP hw hK
    obtain ⟨⟨old, he⟩, hit, hne⟩ := st
    have hel : e < s.heap.objs.size := Heap.lt_size he
    have hil : it < s.heap.objs.size := by obtain ⟨_, q, _⟩ := hit; exact Heap.lt_size q
    have Dr := Draws.text (prog := X.prog) (w := X.w) (A := X.A.in1) (show X.A.in1.handled = none from I.ok.hd hc) it z t
    refine wpAny_pyNext_enum_itemD Dr he hit hg hne (by simpa using hne) fun x' h' tk hP ho hit' hT hsz hk => ?_
    obtain ⟨c, u, hcu, rfl⟩ := hP
    refine ⟨_, rfl, wpAny_letOwnedTupleGo_enum (s := { s with heap := h', toks := tk + 1 }) ho fun h'' he' sb => ?_⟩
    have hT2 : h''.get? s.heap.objs.size = some { cls := .type "tuple", data := .seq #[.int i tk, .str ⟨#[c]⟩ u] } := (sb.2 _ (Nat.ne_of_gt hel)).trans hT
    have new : ObjOk X.prog X.w (upd H s.heap.objs.size (.tup [.int (i : Nat), .str ⟨#[c]⟩])) h'' s.heap.objs.size (.tup [.int (i : Nat), .str ⟨#[c]⟩]) :=
      ⟨by show 2 ≤ sizeLine; decide, [.int i tk, .str ⟨#[c]⟩ u], .cons ⟨_, rfl⟩ (.cons ⟨_, rfl⟩ .nil), ⟨_, hT2, rfl, _, rfl⟩⟩
    have I1 : Inv X pins σ (upd H s.heap.objs.size (.tup [.int (i : Nat), .str ⟨#[c]⟩])) { s with heap := h'', toks := tk + 1 } :=
      I.turnedNew (ch := [e, it]) (fun b ob hb q => (sb.2 b (fun z => hb (by simp [z]))).trans (hk b ob (fun z => hb (by simp [z])) (fun z => hb (by simp [z])) q)) hf (Nat.le_refl _) new
    refine ⟨.ref s.heap.objs.size, _, I1, rfl, ⟨_, c, rfl, I.hok.fresh (Nat.le_refl _), rfl, hcu⟩, ⟨⟨.str ⟨#[c]⟩ u, ?_⟩, ?_, hne⟩, fun b hb => ?_⟩
    · have e1 : ((i + 1 : Nat) : Int) = (i : Int) + 1 := by omega
      rw [e1]; exact he'
    · obtain ⟨o, ho2, hcd⟩ := hit'
      exact ⟨o, (sb.2 it (Ne.symm hne)).trans ho2, hcd⟩
    · have hb' : b < s.heap.objs.size := by
        have e' : b = e ∨ b = it := by simpa using hb
        rcases e' with z | z
        · rw [z]; exact hel
        · rw [z]; exact hil
      rw [upd_ne (Nat.ne_of_lt hb')]
      exact (hf b hb).1
  done := by
    intro X hP hw hK hc i pins s σ H E I hf st hg
    subst hP hw hK
    obtain ⟨⟨old, he⟩, hit, hne⟩ := st
    obtain ⟨f0, f1, f2, f3, f4, f5⟩ := hf it (by simp)
    have Dr := Draws.text (prog := X.prog) (w := X.w) (A := X.A.in1) (show X.A.in1.handled = none from I.ok.hd hc) it z t
    have hn : z.cps.size = i := hg
    exact wpAny_pyNext_enum_endD Dr he (by rw [hn]; exact hit) fun h' eb => ⟨rfl, I.turned (t' := s.toks) (fun b o hb q => eb b o hb q) f0 f1 f3 f4 f5⟩
  self := fun A i s Q E st h => let ⟨⟨_, he⟩, _⟩ := st; wpAny_pyIter_enum he h

/-- enumerate of a list, a tuple, a text -/
def iEnumV (K : PySem.W.Frag) (ta : TA) : TI := fun σ H R => ta σ H fun vs H1 => (∃ a xs, vs = [.ref a] ∧ SqL K H1 a xs ∧ R (Ite K a) H1) ∨ (∃ a xs, vs = [.ref a] ∧ SqT K H1 a xs ∧ R (IteT K a) H1) ∨ ∃ z, vs = [.str z] ∧ R (IteS z) H1
theorem pi_enumV {X : Cx} {e : Expr} {ta : TA} {p pos tpos : Pos} {elts : List Expr} {kk : Nat} (hg : Gl X "enumerate") (hm : X.mg "enumerate" = none) (ha : PA X [e] ta) (hs : starEach [e] X.env = [(false, eval e X.env)] := by rfl) :
    PI X (.Tuple elts kk tpos) (.Call (.Name "enumerate" p) [e] [] pos) (iEnumV X.K ta) := by
  refine ⟨fun pins s σ H R I h => ?_⟩
  refine Call_ (ld_blt I hg hm boot_enumerate (PyProof.Rows.callWith_type1 (thn (ha.run pos pins s σ H _ I h) fun us s1 ⟨vs, H1, I1, r1, q1⟩ => ?_) hs rfl))
  have fp : ∀ b ∈ [s1.heap.objs.size + 1, s1.heap.objs.size], FpOk X pins H1 b := fun b hb => by
    have e' : b = s1.heap.objs.size + 1 ∨ b = s1.heap.objs.size := by simpa using hb
    have hle : s1.heap.objs.size ≤ b := by
      rcases e' with z | z
      · rw [z]; exact Nat.le_add_right _ _
      · rw [z]; exact Nat.le_refl _
    exact I1.fpOk hle (I1.hok.fresh hle)
  rcases q1 with ⟨a, xs, ex, hq, q⟩ | ⟨a, xs, ex, hq, q⟩ | ⟨z, ex, q⟩
  · subst ex
    obtain ⟨u, rfl, r⟩ := vals1 r1
    cases r
    obtain ⟨its, rv, p', hz⟩ := I1.list hq
    refine call_enumerate_list p'.isList fun h' he hit hsz hk => wpAny_pyIter_enum he ?_
    have I2 : Inv X pins σ H1 { s1 with heap := h' } := I1.kept (t' := s1.toks) hk
    exact ⟨s1.heap.objs.size + 1, [s1.heap.objs.size + 1, s1.heap.objs.size], _, _, H1, rfl, I2, turn_enum a (s1.heap.objs.size + 1) s1.heap.objs.size, ⟨⟨.none, he⟩, hit, Nat.succ_ne_self _⟩, fp, q⟩
  · subst ex
    obtain ⟨u, rfl, r⟩ := vals1 r1
    cases r
    obtain ⟨its, rv, p', hz⟩ := I1.tuple hq
    have lt : a < s1.heap.objs.size := p'.lt
    refine enum_begins1 (begins_tuple a its.toArray) p' fun h' he hit hsz hk => wpAny_pyIter_enum he ?_
    have I2 : Inv X pins σ H1 { s1 with heap := h' } := I1.kept (t' := s1.toks) hk
    exact ⟨s1.heap.objs.size + 1, [s1.heap.objs.size + 1, s1.heap.objs.size], _, _, H1, rfl, I2, turn_enumT a (s1.heap.objs.size + 1) s1.heap.objs.size, ⟨⟨.none, he⟩, ⟨_, hit, rfl, rfl⟩, Nat.succ_ne_self _, Nat.ne_of_lt lt, Ne.symm (Nat.ne_of_lt (Nat.lt_succ_of_lt lt))⟩, fp, q⟩
  · subst ex
    obtain ⟨u, rfl, r⟩ := vals1 r1
    obtain ⟨t, rfl⟩ := r
    refine enum_begins1 (begins_text z t) trivial fun h' he hit hsz hk => wpAny_pyIter_enum he ?_
    have I2 : Inv X pins σ H1 { s1 with heap := h' } := I1.kept (t' := s1.toks) hk
    exact ⟨s1.heap.objs.size + 1, [s1.heap.objs.size + 1, s1.heap.objs.size], _, _, H1, rfl, I2, turn_enumS z t (s1.heap.objs.size + 1) s1.heap.objs.size, ⟨⟨.none, he⟩, ⟨_, hit, rfl, rfl⟩, Nat.succ_ne_self _⟩, fp, q⟩

/-! ### sources -/
/-- items that are known -/
def nxL (ds : List D) (i : Nat) : Option (Option D) := if i = ds.length then some none else (ds[i]?).map some
def nxEn (ds : List D) (i : Nat) : Option (Option D) := if i = ds.length then some none else (ds[i]?).map fun d => some (.tup [.int (i : Nat), d])
def signs (x : List Nat) : List D := x.map fun c => .str [c]
/-- for x in v -/
def srcOf (d : D) (S : Store) : Option Src := match d with
  | .tup ds => some ⟨ds.length + 1, fun i _ => nxL ds i⟩
  | .str x => some ⟨x.length + 1, fun i _ => nxL (signs x) i⟩
  | .ref n => (lstAt S n).map fun xs => ⟨xs.length + 1, fun i S => (lstAt S n).bind fun xs => nxL xs i⟩
  | _ => none
def srcEn (d : D) (S : Store) : Option Src := match d with
  | .tup ds => some ⟨ds.length + 1, fun i _ => nxEn ds i⟩
  | .str x => some ⟨x.length + 1, fun i _ => nxEn (signs x) i⟩
  | .ref n => (lstAt S n).map fun xs => ⟨xs.length + 1, fun i S => (lstAt S n).bind fun xs => nxEn xs i⟩
  | _ => none
def ofSrc (o : Option Src) (S : Store) : Res Src := match o with
  | some s => .ok s S
  | none => .stuck
def iVal (a : EF) : IF := fun ρ S => (a ρ S).bind fun d S1 => ofSrc (srcOf d S1) S1
def iEn (a : AF) : IF := fun ρ S => (a ρ S).bind fun ds S1 => match ds with
  | [d] => ofSrc (srcEn d S1) S1
  | _ => .stuck
def srcRg : List D → Option Src
  | [.int j] => if -(2 ^ 62) ≤ j ∧ j < 2 ^ 62 then some ⟨j.toNat + 1, fun i _ => if i < j.toNat then some (some (.int (i : Nat))) else some none⟩ else none
  | _ => none
def iRange (a : AF) : IF := fun ρ S => (a ρ S).bind fun ds S1 => ofSrc (srcRg ds) S1
theorem nxL_some {ds : List D} {i : Nat} {d : D} (e : nxL ds i = some (some d)) : ds[i]? = some d := by
  unfold nxL at e
  split at e
  · cases e
  · obtain ⟨x, e1, e2⟩ : ∃ x, ds[i]? = some x ∧ some x = some d := by
      cases z : ds[i]? with
      | none => rw [z] at e; cases e
      | some x => rw [z] at e; exact ⟨x, rfl, Option.some.inj e⟩
    cases e2
    exact e1
theorem nxL_none {ds : List D} {i : Nat} (e : nxL ds i = some none) : ds.length = i := by
  unfold nxL at e
  split at e
  · rename_i h; exact h.symm
  · cases z : ds[i]? with
    | none => rw [z] at e; cases e
    | some x => rw [z] at e; cases e
theorem nxEn_some {ds : List D} {i : Nat} {d : D} (e : nxEn ds i = some (some d)) : ∃ d', ds[i]? = some d' ∧ d = .tup [.int (i : Nat), d'] := by
  unfold nxEn at e
  split at e
  · cases e
  · cases z : ds[i]? with
    | none => rw [z] at e; cases e
    | some x => rw [z] at e; cases e; exact ⟨x, rfl, rfl⟩
theorem nxEn_none {ds : List D} {i : Nat} (e : nxEn ds i = some none) : ds.length = i := by
  unfold nxEn at e
  split at e
  · rename_i h; exact h.symm
  · cases z : ds[i]? with
    | none => rw [z] at e; cases e
    | some x => rw [z] at e; cases e
def iValV (K : PySem.W.Frag) (te : TE) : TI := fun σ H R => te σ H fun x H1 => (∃ a xs, x = .ref a ∧ SqL K H1 a xs ∧ R (Itl K a) H1) ∨ (∃ a xs, x = .ref a ∧ SqT K H1 a xs ∧ R (Itt K a) H1) ∨ ∃ z, x = .str z ∧ R (Its z) H1
theorem pi_valV {X : Cx} {tg e : Expr} {te : TE} (he : PE X e te) : PI X tg e (iValV X.K te) := by
  refine ⟨fun pins s σ H R I h => ?_⟩
  refine thn (he.run pins s σ H _ I h) fun v s1 ⟨x, H1, I1, r1, q1⟩ => ?_
  rcases q1 with ⟨a, xs, ex, hq, q⟩ | ⟨a, xs, ex, hq, q⟩ | ⟨z, ex, q⟩
  · subst ex
    cases r1
    obtain ⟨its, rv, p, hz⟩ := I1.list hq
    refine wpAny_pyIter_list p.isList ?_
    refine ⟨s1.heap.objs.size, [s1.heap.objs.size], _, _, H1, rfl, I1.kept (t' := s1.toks) fun b o e => Heap.get?_push_of_some _ e, turn_list a _, ⟨_, Heap.get?_push_size _ rfl, rfl, rfl⟩, fun b hb => ?_, q⟩
    have e : b = s1.heap.objs.size := by simpa using hb
    subst e
    exact I1.fpOk (Nat.le_refl _) (I1.hok.fresh (Nat.le_refl _))
  · subst ex
    cases r1
    obtain ⟨its, rv, p, hz⟩ := I1.tuple hq
    refine wpAny_pyIter_tuple (show s1.heap.IsTuple a its.toArray from p) ?_
    refine ⟨s1.heap.objs.size, [s1.heap.objs.size], _, _, H1, rfl, I1.kept (t' := s1.toks) fun b o e => Heap.get?_push_of_some _ e, turn_tuple a _, ⟨_, Heap.get?_push_size _ rfl, rfl, rfl⟩, fun b hb => ?_, q⟩
    have e : b = s1.heap.objs.size := by simpa using hb
    subst e
    exact I1.fpOk (Nat.le_refl _) (I1.hok.fresh (Nat.le_refl _))
  · subst ex
    obtain ⟨t, rfl⟩ := r1
    cases ha : z.cps.all (· < 128)
    · exact wpAny_pyIter_wide ha (pi_one (tk := s1.toks) I1 _ (turn_str _ z t "str_iterator" (.inr rfl)) ⟨_, Heap.get?_push_size _ rfl, rfl, rfl⟩ q)
    · exact wpAny_pyIter_ascii ha (pi_one (tk := s1.toks) I1 _ (turn_str _ z t "str_ascii_iterator" (.inl rfl)) ⟨_, Heap.get?_push_size _ rfl, rfl, rfl⟩ q)
theorem lstAt_sq {K : PySem.W.Frag} {φ : List Addr} {H : Hp} {S : Store} {n : Nat} {p : Addr} {xs : List D} (rh : RH K φ H S) (g : φ[n]? = some p) (e : lstAt S n = some xs) : ∃ vs, SqL K H p vs ∧ RVs K φ H xs vs := by
  obtain ⟨q, vs, e1, sq, r⟩ := lstAt_ok rh e (rv_ref g)
  cases e1
  exact ⟨vs, sq, r⟩
theorem signs_get {x : List Nat} {i : Nat} {d : D} (e : (signs x)[i]? = some d) : ∃ c, x[i]? = some c ∧ d = .str [c] := by
  unfold signs at e
  rw [List.getElem?_map] at e
  obtain ⟨c, e1, e2⟩ := mapOpt e
  exact ⟨c, e1, e2.symm⟩
theorem signs_len (x : List Nat) : (signs x).length = x.length := by simp [signs]
section
variable {X : Cx} {W : WX} {tg e : Expr} {Fa : EF} {Fr : AF} {pos p tpos : Pos}
theorem src_tup {K : PySem.W.Frag} {φ : List Addr} {H : Hp} {a : Addr} {vs : List V} {ds : List D} (sq : SqT K H a vs) (r : RVs K φ H ds vs) : SrcOk K φ H (Itt K a) (fun i _ => nxL ds i) := by
  intro i φ1 H1 S1 x rh
  have sq1 := x.sq a vs sq
  refine ⟨fun d e => ?_, fun e => ⟨vs, sq1, by rw [← r.length, nxL_none e]; exact Nat.le_refl _⟩⟩
  obtain ⟨v, e1, rv⟩ := (r.ext x).get (nxL_some e)
  refine ⟨⟨vs, v, sq1, e1⟩, fun y H' ⟨e2, hy⟩ => ?_⟩
  subst e2
  have := hy vs sq1
  rw [e1] at this
  cases this
  exact ⟨.refl, rh, rv⟩
theorem src_lst {K : PySem.W.Frag} {φ : List Addr} {H : Hp} {a : Addr} {n : Nat} (g : φ[n]? = some a) : SrcOk K φ H (Itl K a) (fun i S => (lstAt S n).bind fun xs => nxL xs i) := by
  intro i φ1 H1 S1 x rh
  refine ⟨fun d e => ?_, fun e => ?_⟩
  · obtain ⟨xs, el, e⟩ := bindO e
    obtain ⟨vs, sq, r⟩ := lstAt_sq rh (pre_get x.pre g) el
    obtain ⟨v, e1, rv⟩ := r.get (nxL_some e)
    refine ⟨⟨vs, v, sq, e1⟩, fun y H' ⟨e2, hy⟩ => ?_⟩
    subst e2
    have := hy vs sq
    rw [e1] at this
    cases this
    exact ⟨.refl, rh, rv⟩
  · obtain ⟨xs, el, e⟩ := bindO e
    obtain ⟨vs, sq, r⟩ := lstAt_sq rh (pre_get x.pre g) el
    exact ⟨vs, sq, by rw [← r.length, nxL_none e]; exact Nat.le_refl _⟩
theorem src_str {K : PySem.W.Frag} {φ : List Addr} {H : Hp} {z : List Nat} : SrcOk K φ H (Its (toS z)) (fun i _ => nxL (signs z) i) := by
  intro i φ1 H1 S1 x rh
  refine ⟨fun d e => ?_, fun e => ?_⟩
  · obtain ⟨c, e1, rfl⟩ := signs_get (nxL_some e)
    have e5 : (toS z).cps[i]? = some c := by simpa [toS] using e1
    refine ⟨(Array.getElem?_eq_some_iff.mp e5).1, fun y H' ⟨e2, c', e3, e4⟩ => ?_⟩
    rw [e5] at e3
    cases e3
    subst e2 e4
    exact ⟨.refl, rh, rv_str⟩
  · have := nxL_none e
    rw [signs_len] at this
    show (toS z).cps.size ≤ i
    simp [toS, this]
theorem ai_val (he : AE X W e Fa) : AI X W tg e (iVal Fa) := by
  refine pi_mono (pi_valV he) fun σ H R ⟨φ, ρ, S, rh, rl, f⟩ => ⟨φ, ρ, S, rh, rl, ?_⟩
  unfold iVal at f
  cases z : Fa ρ S with
  | stuck => rw [z] at f; exact f.elim
  | exc x S1 => rw [z] at f; exact f
  | ok d S1 =>
    rw [z] at f
    intro φ1 H1 v x1 rh1 rv1
    have f : match ofSrc (srcOf d S1) S1 with
      | .ok src S' => ∀ φ' H' J, Ext X.K φ H φ' H' → RH X.K φ' H' S' → SrcOk X.K φ' H' J src.nxt → R J H'
      | .exc x S' => ∀ φ' H' cv dx, Ext X.K φ H φ' H' → RH X.K φ' H' S' → RX X.K φ' H' x cv dx → W cv dx σ H'
      | .stuck => False := f
    cases d with
    | tup ds =>
      obtain ⟨p, vs, rfl, sq, r⟩ := rv1.tup_
      exact .inr (.inl ⟨p, vs, rfl, sq, f φ1 H1 _ x1 rh1 (src_tup sq r)⟩)
    | str y => exact .inr (.inr ⟨toS y, rv1.str_, f φ1 H1 _ x1 rh1 src_str⟩)
    | ref n =>
      cases el : lstAt S1 n with
      | none => simp only [srcOf, el, Option.map, ofSrc] at f
      | some xs =>
        simp only [srcOf, el, Option.map, ofSrc] at f
        obtain ⟨p, e1, g⟩ := rv1.ref_
        obtain ⟨vs, sq, r⟩ := lstAt_sq rh1 g el
        exact .inl ⟨p, vs, e1, sq, f φ1 H1 _ x1 rh1 (src_lst g)⟩
    | _ => exact f.elim
theorem pair_new {K : PySem.W.Frag} {φ : List Addr} {H : Hp} {S : Store} {T : Addr} {i : Nat} {d : D} {v : V} (rh : RH K φ H S) (hT : H T = none) (r : RV K φ H d v) :
    Ext K φ H φ (upd H T (.tup [.int (i : Nat), v])) ∧ RH K φ (upd H T (.tup [.int (i : Nat), v])) S ∧ RV K φ (upd H T (.tup [.int (i : Nat), v])) (.tup [.int (i : Nat), d]) (.ref T) := by
  have x := Ext.new (K := K) (φ := φ) (o := HO.tup [.int (i : Nat), v]) hT
  exact ⟨x, rh.new hT, rv_tup (.inl (.inl upd_same)) (.cons rv_int (.cons (r.ext x) .nil))⟩
theorem src_enT {K : PySem.W.Frag} {φ : List Addr} {H : Hp} {a : Addr} {vs : List V} {ds : List D} (sq : SqT K H a vs) (r : RVs K φ H ds vs) : SrcOk K φ H (IteT K a) (fun i _ => nxEn ds i) := by
  intro i φ1 H1 S1 x rh
  have sq1 := x.sq a vs sq
  refine ⟨fun d e => ?_, fun e => ⟨vs, sq1, by rw [← r.length, nxEn_none e]⟩⟩
  obtain ⟨d', e0, rfl⟩ := nxEn_some e
  obtain ⟨v, e1, rv⟩ := (r.ext x).get e0
  refine ⟨⟨vs, v, sq1, e1⟩, fun y H' ⟨T, v', e2, hT, e3, hy⟩ => ?_⟩
  have := hy vs sq1
  rw [e1] at this
  cases this
  subst e2 e3
  exact pair_new rh hT rv
theorem src_enL {K : PySem.W.Frag} {φ : List Addr} {H : Hp} {a : Addr} {n : Nat} (g : φ[n]? = some a) : SrcOk K φ H (Ite K a) (fun i S => (lstAt S n).bind fun xs => nxEn xs i) := by
  intro i φ1 H1 S1 x rh
  refine ⟨fun d e => ?_, fun e => ?_⟩
  · obtain ⟨xs, el, e⟩ := bindO e
    obtain ⟨vs, sq, r⟩ := lstAt_sq rh (pre_get x.pre g) el
    obtain ⟨d', e0, rfl⟩ := nxEn_some e
    obtain ⟨v, e1, rv⟩ := r.get e0
    refine ⟨⟨vs, v, sq, e1⟩, fun y H' ⟨T, v', e2, hT, e3, hy⟩ => ?_⟩
    have := hy vs sq
    rw [e1] at this
    cases this
    subst e2 e3
    exact pair_new rh hT rv
  · obtain ⟨xs, el, e⟩ := bindO e
    obtain ⟨vs, sq, r⟩ := lstAt_sq rh (pre_get x.pre g) el
    exact ⟨vs, sq, by rw [← r.length, nxEn_none e]; exact Nat.le_refl _⟩
theorem src_enS {K : PySem.W.Frag} {φ : List Addr} {H : Hp} {z : List Nat} : SrcOk K φ H (IteS (toS z)) (fun i _ => nxEn (signs z) i) := by
  intro i φ1 H1 S1 x rh
  refine ⟨fun d e => ?_, fun e => ?_⟩
  · obtain ⟨d', e0, rfl⟩ := nxEn_some e
    obtain ⟨c, e1, rfl⟩ := signs_get e0
    have e5 : (toS z).cps[i]? = some c := by simpa [toS] using e1
    refine ⟨(Array.getElem?_eq_some_iff.mp e5).1, fun y H' ⟨T, c', e2, hT, e3, e4⟩ => ?_⟩
    rw [e5] at e4
    cases e4
    subst e2 e3
    exact pair_new rh hT rv_str
  · have := nxEn_none e
    rw [signs_len] at this
    show (toS z).cps.size = i
    simp [toS, this]
theorem ai_enum {elts : List Expr} {kk : Nat} (ha : AA X W [e] Fr) (hm : X.mg "enumerate" = none) (hg : Gl X "enumerate" := by rfl) (hs : starEach [e] X.env = [(false, eval e X.env)] := by rfl) :
    AI X W (.Tuple elts kk tpos) (.Call (.Name "enumerate" p) [e] [] pos) (iEn Fr) := by
  refine pi_mono (pi_enumV hg hm ha hs) fun σ H R ⟨φ, ρ, S, rh, rl, f⟩ => ⟨φ, ρ, S, rh, rl, ?_⟩
  unfold iEn at f
  cases z : Fr ρ S with
  | stuck => rw [z] at f; exact f.elim
  | exc x S1 => rw [z] at f; exact f
  | ok ds S1 =>
    rw [z] at f
    intro φ1 H1 vs x1 rh1 rv1
    cases ds with
    | nil => exact f.elim
    | cons d r =>
      cases r with
      | cons _ _ => exact f.elim
      | nil =>
        obtain ⟨v, rfl, rv⟩ := rvs1 rv1
        have f : match ofSrc (srcEn d S1) S1 with
          | .ok src S' => ∀ φ' H' J, Ext X.K φ H φ' H' → RH X.K φ' H' S' → SrcOk X.K φ' H' J src.nxt → R J H'
          | .exc x S' => ∀ φ' H' cv dx, Ext X.K φ H φ' H' → RH X.K φ' H' S' → RX X.K φ' H' x cv dx → W cv dx σ H'
          | .stuck => False := f
        cases d with
        | tup ds =>
          obtain ⟨p, vs, rfl, sq, r⟩ := rv.tup_
          exact .inr (.inl ⟨p, vs, rfl, sq, f φ1 H1 _ x1 rh1 (src_enT sq r)⟩)
        | str y => exact .inr (.inr ⟨toS y, by rw [rv.str_], f φ1 H1 _ x1 rh1 src_enS⟩)
        | ref n =>
          cases el : lstAt S1 n with
          | none => simp only [srcEn, el, Option.map, ofSrc] at f
          | some xs =>
            simp only [srcEn, el, Option.map, ofSrc] at f
            obtain ⟨p, e1, g⟩ := rv.ref_
            obtain ⟨vs, sq, r⟩ := lstAt_sq rh1 g el
            exact .inl ⟨p, vs, by rw [e1], sq, f φ1 H1 _ x1 rh1 (src_enL g)⟩
        | _ => exact f.elim
theorem ai_range (ha : AA X W [e] Fr) (hm : X.mg "range" = none) (hg : Gl X "range" := by rfl) (hs : starEach [e] X.env = [(false, eval e X.env)] := by rfl) :
    AI X W tg (.Call (.Name "range" p) [e] [] pos) (iRange Fr) := by
  refine pi_mono (pi_range1 hg hm ha hs) fun σ H R ⟨φ, ρ, S, rh, rl, f⟩ => ⟨φ, ρ, S, rh, rl, ?_⟩
  unfold iRange at f
  cases z : Fr ρ S with
  | stuck => rw [z] at f; exact f.elim
  | exc x S1 => rw [z] at f; exact f
  | ok ds S1 =>
    rw [z] at f
    intro φ1 H1 vs x1 rh1 rv1
    have f : match ofSrc (srcRg ds) S1 with
      | .ok src S' => ∀ φ' H' J, Ext X.K φ H φ' H' → RH X.K φ' H' S' → SrcOk X.K φ' H' J src.nxt → R J H'
      | .exc x S' => ∀ φ' H' cv dx, Ext X.K φ H φ' H' → RH X.K φ' H' S' → RX X.K φ' H' x cv dx → W cv dx σ H'
      | .stuck => False := f
    cases es : srcRg ds with
    | none => rw [es] at f; exact f.elim
    | some src =>
      rw [es] at f
      unfold srcRg at es
      split at es
      · rename_i j
        split at es
        · cases es
          rename_i hj
          obtain ⟨v, rfl, rv⟩ := rvs1 rv1
          refine ⟨j, by rw [rv.int_], hj.1, hj.2, f φ1 H1 _ x1 rh1 ?_⟩
          intro i φ2 H2 S2 x2 rh2
          refine ⟨fun d e => ?_, fun e => ?_⟩
          · have e : (if i < j.toNat then some (some (D.int (i : Nat))) else some none) = some (some d) := e
            split at e
            · cases e
              rename_i h
              refine ⟨h, fun y H' ⟨e2, e3⟩ => ?_⟩
              subst e2 e3
              exact ⟨.refl, rh2, by rw [Int.zero_add]; exact rv_int⟩
            · cases e
          · have e : (if i < j.toNat then some (some (D.int (i : Nat))) else some none) = some none := e
            split at e
            · cases e
            · rename_i h
              exact Nat.le_of_not_lt h
        · cases es
      · cases es
end
end Al

set_option Elab.async false
set_option linter.all false
set_option maxRecDepth 100000
set_option maxHeartbeats 1000000
/-! Al: list comprehensions. -/
namespace Al
open PySem PySem.Spec PyProof.Rows L2
abbrev W0 : WX := fun _ _ _ _ => False
def Res.quiet {α : Type} : Res α → Res α
  | .ok a S => .ok a S
  | _ => .stuck
def wipeE (ρ : Env) : List Nat → Env
  | [] => ρ
  | v :: vs => (wipeE ρ vs).set v none
theorem RL.setNone {K : PySem.W.Frag} {φ : List Addr} {H : Hp} {σ : St} {ρ : Env} (i : Nat) (h : RL K φ H σ ρ) : RL K φ H (σ.set i none) (ρ.set i none) := by
  refine ⟨by simp [h.1], fun j d' e => ?_⟩
  by_cases hj : i = j
  · subst hj
    by_cases hl : i < ρ.length
    · rw [List.getElem?_set_self hl] at e
      cases e
    · rw [List.getElem?_eq_none (by simpa using hl)] at e
      cases e
  · rw [List.getElem?_set_ne hj] at e
    obtain ⟨w, e1, r1⟩ := h.2 j d' e
    exact ⟨w, by rw [List.getElem?_set_ne hj]; exact e1, r1⟩
theorem RL.wipe {K : PySem.W.Frag} {φ : List Addr} {H : Hp} {σ : St} {ρ : Env} (h : RL K φ H σ ρ) : ∀ vs : List Nat, RL K φ H (L2.wipe σ vs) (wipeE ρ vs)
  | [] => h
  | v :: vs => (RL.wipe h vs).setNone v
/-- a comprehension's turns: its list has the number n -/
def lcF (nxt : Nat → Store → Option (Option D)) (t : Tg) (ti : TF) (el : EF) (n : Nat) : Nat → Nat → Env → Store → Res D
  | 0, _, _, _ => .stuck
  | m + 1, i, ρ, S => match nxt i S with
    | none => .stuck
    | some none => .ok (.ref n) S
    | some (some d) => match tgD t d ρ with
      | none => .stuck
      | some ρ1 => (ti ρ1 S).quiet.bind fun b S1 => if b = true then (el ρ1 S1).quiet.bind fun y S2 => match S2[n]? with
            | some (.lst acc) => if acc.length < lim then lcF nxt t ti el n m (i + 1) ρ (S2.set n (.lst (acc ++ [y]))) else .stuck
            | _ => .stuck
          else lcF nxt t ti el n m (i + 1) ρ S1
def eLc (it : IF) (t : Tg) (ti : TF) (el : EF) (vs : List Nat) : EF := fun ρ S => (it ρ S).bind fun src S1 => lcF src.nxt t ti el S1.length src.fuel 0 (wipeE ρ vs) (S1 ++ [.lst []])
def tYesF : TF := fun _ S => .ok true S
def ATs (X : Cx) (W : WX) (es : List Expr) (F : TF) : Prop := PTs X es (tFT X.K W F)
section
variable {X : Cx} {W : WX}
theorem pts_mono {es : List Expr} {t t' : TT} (h : PTs X es t) (i : ∀ σ H Q, t' σ H Q → t σ H Q) : PTs X es t' := ⟨fun pins s σ H Q I q => h.run pins s σ H Q I (i σ H Q q)⟩
theorem ats_nil : ATs X W [] tYesF := pts_mono pts_nil fun σ H Q ⟨φ, ρ, S, rh, rl, f⟩ => f φ H .refl rh
theorem ats_one {c : Expr} {T : TF} (h : AT X W c T) : ATs X W [c] T := pts_one h
theorem lc_run {σ : St} {H : Hp} {Q : VK} {Fi : IF} {t : Tg} {Ti : TF} {Fe : EF} {vs : List Nat} {K : PySem.W.Frag} (ht : ∀ i ∈ t.slots, i ∈ vs) (h : tF K W (eLc Fi t Ti Fe vs) σ H Q) :
    tLc (tFI K W Fi) (tgV K t) (tFT K W0 Ti) (tF K W0 Fe) vs σ H Q := by
  obtain ⟨φ, ρ, S, rh, rl, f⟩ := h
  refine ⟨φ, ρ, S, rh, rl, ?_⟩
  unfold eLc at f
  cases z : Fi ρ S with
  | stuck => rw [z] at f; exact f.elim
  | exc x S1 => rw [z] at f; exact f
  | ok src S1 =>
    rw [z] at f
    intro φ0 H0 J x0 rh0 ok Dd hD
    have f : Fin K W φ H σ (lcF src.nxt t Ti Fe S1.length src.fuel 0 (wipeE ρ vs) (S1 ++ [.lst []])) Q := f
    have x1 := Ext.num (K := K) (φ := φ0) (o := HO.lst []) hD
    have rh1 := rh0.alloc (x := .lst []) (o := HO.lst []) hD ⟨[], upd_same, .nil⟩
    refine ⟨fun i m H1 => ∃ φ1 S2, Ext K (φ0 ++ [Dd]) (upd H0 Dd (.lst [])) φ1 H1 ∧ RH K φ1 H1 S2 ∧ Fin K W φ1 H1 σ (lcF src.nxt t Ti Fe S1.length m i (wipeE ρ vs) S2) Q, ⟨src.fuel, _, _, .refl, rh1, (f.ext x0).ext x1⟩, ?_⟩
    rintro i m H1 ⟨φ1, S2, x2, rh2, f1⟩
    have gD : φ1[S1.length]? = some Dd := pre_get x2.pre (by rw [← rh0.len]; simp)
    cases m with
    | zero => exact f1.elim
    | succ n =>
      have o := ok i φ1 H1 S2 (x1.trans x2) rh2
      unfold lcF at f1
      split at f1
      · exact f1.elim
      · rename_i e
        exact .inl ⟨o.2 e, f1.ok_of rh2 (rv_ref gD)⟩
      · rename_i d e
        have o := o.1 d e
        refine .inr ⟨o.1, fun H'' => ∃ φ1 S2, Ext K (φ0 ++ [Dd]) (upd H0 Dd (.lst [])) φ1 H'' ∧ RH K φ1 H'' S2 ∧ Fin K W φ1 H'' σ (lcF src.nxt t Ti Fe S1.length n (i + 1) (wipeE ρ vs) S2) Q, fun H'' h => ⟨n, Nat.lt_succ_self n, h⟩, fun xv H2 y => ?_⟩
        obtain ⟨x3, rh3, rv3⟩ := o.2 xv H2 y
        split at f1
        · exact f1.elim
        · rename_i ρ2 er
          have rlw : RL K φ1 H2 (L2.wipe σ vs) (wipeE ρ vs) := ((((rl.ext x0).ext x1).ext x2).ext x3).wipe vs
          have ww : L2.wipe (L2.wipe σ vs) vs = L2.wipe σ vs := by
            have : ∀ (us : List Nat) (τ : St), (∀ i ∈ us, ∀ v, τ[i]? = some v → v = none) → L2.wipe τ us = τ := by
              intro us
              induction us with
              | nil => intro τ _; rfl
              | cons a us ih =>
                intro τ hτ
                unfold L2.wipe
                rw [ih τ fun i hi => hτ i (List.mem_cons_of_mem _ hi)]
                apply List.ext_getElem?
                intro j
                by_cases hj : a = j
                · subst hj
                  by_cases hl : a < τ.length
                  · rw [List.getElem?_set_self hl]
                    have := hτ a List.mem_cons_self τ[a] (List.getElem?_eq_getElem hl)
                    rw [List.getElem?_eq_getElem hl, this]
                  · rw [List.getElem?_eq_none (by simpa using hl), List.getElem?_eq_none (by omega)]
                · rw [List.getElem?_set_ne hj]
            refine this vs _ fun i hi v hv => ?_
            cases v with
            | none => rfl
            | some w => exact absurd hi (wipe_some hv).2
          refine tgV_run er rv3 rlw fun σ3 rl3 hw => ⟨?_, ?_⟩
          · rw [hw vs ht, ww]
          · refine ⟨φ1, ρ2, S2, rh3, rl3, ?_⟩
            have f2 := f1.ext x3
            cases zt : Ti ρ2 S2 with
            | stuck => rw [zt] at f2; exact f2.elim
            | exc xx S3 => rw [zt] at f2; exact f2.elim
            | ok b S3 =>
              rw [zt] at f2
              intro φ4 H4 x4 rh4
              cases b with
              | false =>
                rw [if_neg Bool.false_ne_true]
                have f3 : Fin K W φ1 H2 σ (lcF src.nxt t Ti Fe S1.length n (i + 1) (wipeE ρ vs) S3) Q := f2
                exact ⟨φ4, S3, (x2.trans x3).trans x4, rh4, f3.ext x4⟩
              | true =>
                rw [if_pos rfl]
                refine ⟨φ4, ρ2, S3, rh4, rl3.ext x4, ?_⟩
                have f3 : Fin K W φ1 H2 σ ((Fe ρ2 S3).quiet.bind fun y S2 => match S2[S1.length]? with
                  | some (.lst acc) => if acc.length < lim then lcF src.nxt t Ti Fe S1.length n (i + 1) (wipeE ρ vs) (S2.set S1.length (.lst (acc ++ [y]))) else .stuck
                  | _ => .stuck) Q := f2
                cases ze : Fe ρ2 S3 with
                | stuck => rw [ze] at f3; exact f3.elim
                | exc xx S4 => rw [ze] at f3; exact f3.elim
                | ok yv S4 =>
                  rw [ze] at f3
                  intro φ5 H5 yy x5 rh5 rv5
                  simp only [Res.quiet, Res.bind_ok] at f3
                  split at f3
                  · rename_i acc ea
                    split at f3
                    · rename_i hl
                      have gD5 : φ5[S1.length]? = some Dd := pre_get ((x3.trans x4).trans x5).pre gD
                      obtain ⟨ws, hw5, r5⟩ := rh5.at_ _ _ _ ea gD5
                      refine ⟨ws, hw5, by rw [← r5.length, lim_eq]; exact hl, ?_⟩
                      have x6 := Ext.wr (K := K) (φ := φ5) (o := HO.lst (ws ++ [yy])) (mu_lst hw5)
                      refine ⟨φ5, _, (((x2.trans x3).trans x4).trans x5).trans x6, rh5.set (x := .lst (acc ++ [yv])) gD5 (mu_lst hw5) (fun q hq => by rw [hw5] at hq; cases hq) ⟨_, upd_same, (r5.append (.cons rv5 .nil)).ext x6⟩, ((f3.ext x4).ext x5).ext x6⟩
                    · exact f3.elim
                  · exact f3.elim
variable {elt tg iter : Expr} {ifs : List Expr} {scope : Scope} {own : List (Str × Nat)} {pos spos : Pos} {Fi : IF} {t : Tg} {Ti : TF} {Fe : EF}
theorem ae_lc (own : List (Str × Nat)) (hc : X.calm = true) (hN : X.N.Nodup) (hi : AI X W tg iter Fi) (ok : BlkOk X.N X.env.scope scope own) (ht0 : ∀ i ∈ t.slots, i ∈ own.map (·.2))
    (hg : ∀ (s : Shared) (H : Hp) (C : Addr) (cl : List (Str × Addr)) (fp : List Addr), AG (X.blk s H scope (compEnvC scope cl C X.env) fp) tg t) (ht : ∀ (s : Shared) (H : Hp) (C : Addr) (cl : List (Str × Addr)) (fp : List Addr), ATs (X.blk s H scope (compEnvC scope cl C X.env) fp) W0 ifs Ti)
    (he : ∀ (s : Shared) (H : Hp) (C : Addr) (cl : List (Str × Addr)) (fp : List Addr), AE (X.blk s H scope (compEnvC scope cl C X.env) fp) W0 elt Fe) (hs : ∀ x, foldedSetIterable iter X.env x = pure x := by intro _; rfl) :
    AE X W (.ListComp elt [⟨tg, iter, ifs, 0⟩] scope pos) (eLc Fi t Ti Fe (own.map (·.2))) :=
  pe_mono (pe_lc (g := tgV X.K t) (tt := tFT X.K W0 Ti) (te := tF X.K W0 Fe) hc hN hi ok hg ht he hs) fun σ H Q h => lc_run ht0 h
theorem as_setLc (i : Nat) (own : List (Str × Nat)) {y : Str} {py : Pos} (hc : X.calm = true) (hN : X.N.Nodup) (hsw : swapsWith (.ListComp elt [⟨tg, iter, ifs, 0⟩] scope pos) (some (.Name y py)) spos.line X.env = pure true) (hi : AI X W tg iter Fi) (ok : BlkOk X.N X.env.scope scope own) (ht0 : ∀ i ∈ t.slots, i ∈ own.map (·.2))
    (hg : ∀ (s : Shared) (H : Hp) (C : Addr) (cl : List (Str × Addr)) (fp : List Addr), AG (X.blk s H scope (compEnvC scope cl C X.env) fp) tg t) (ht : ∀ (s : Shared) (H : Hp) (C : Addr) (cl : List (Str × Addr)) (fp : List Addr), ATs (X.blk s H scope (compEnvC scope cl C X.env) fp) W0 ifs Ti)
    (he : ∀ (s : Shared) (H : Hp) (C : Addr) (cl : List (Str × Addr)) (fp : List Addr), AE (X.blk s H scope (compEnvC scope cl C X.env) fp) W0 elt Fe) (hy : X.N[i]? = some y := by rfl) (hyl : X.env.scope.names.lookup y = some .local := by rfl) (hs : ∀ x, foldedSetIterable iter X.env x = pure x := by intro _; rfl) :
    AS X W (.Assign [.Name y py] (.ListComp elt [⟨tg, iter, ifs, 0⟩] scope pos) spos) (sSet i (eLc Fi t Ti Fe (own.map (·.2)))) := by
  refine ps_mono (ps_setLc (g := tgV X.K t) (tt := tFT X.K W0 Ti) (te := tF X.K W0 Fe) hc hN hy hyl hsw hi ok hg ht he hs) fun D σ H ⟨φ, ρ, S, rh, rl, f⟩ => lc_run ht0 ⟨φ, ρ, S, rh, rl, (Fin.bindS trivial f).imp ?_⟩
  rintro v H1 ⟨φ1, S1, d, e1, rh1, rv1, f1⟩
  exact FinS.nx_of f1 rh1 ((rl.ext e1).set i rv1)
end
end Al

set_option Elab.async false
set_option linter.all false
set_option maxRecDepth 100000
set_option maxHeartbeats 1000000
/-! Al: defs and their calls. -/
namespace Al
open PySem PySem.Spec PyProof.Rows L2
/-- what a def computes -/
abbrev CF := List D → Store → Res D
def spA (K : PySem.W.Frag) (n : Nat) (F : CF) : Sp := fun vs H Q E => vs.length = n ∧ ∃ φ S ds, RH K φ H S ∧ RVs K φ H ds vs ∧ match F ds S with
  | .ok d S' => ∀ φ' H' v, Ext K φ H φ' H' → RH K φ' H' S' → RV K φ' H' d v → Q v H'
  | .exc x S' => ∀ φ' H' cv dx, Ext K φ H φ' H' → RH K φ' H' S' → RX K φ' H' x cv dx → E cv dx H'
  | .stuck => False
def startE (n : Nat) (ds : List D) : Env := ds.map some ++ List.replicate (n - ds.length) none
def bodyF (n : Nat) (B : SF) : CF := fun ds S => (B (startE n ds) S).bind fun o S' => match o with
  | .ret d => .ok d S'
  | .nx _ => .ok .non S'
  | _ => .stuck
theorem rl_start {K : PySem.W.Frag} {φ : List Addr} {H : Hp} {N : List Str} {ds : List D} {vs : List V} (r : RVs K φ H ds vs) : RL K φ H (L2.start N vs) (startE N.length ds) := by
  unfold L2.start startE
  refine ⟨by simp [r.length], fun i d e => ?_⟩
  by_cases hi : i < ds.length
  · rw [List.getElem?_append_left (by simpa using hi), List.getElem?_map] at e
    obtain ⟨x, e1, e2⟩ := mapOpt e
    cases e2
    obtain ⟨v, e3, rv⟩ := r.get e1
    exact ⟨v, by rw [List.getElem?_append_left (by simpa [← r.length] using hi), List.getElem?_map, e3]; rfl, rv⟩
  · rw [List.getElem?_append_right (by simpa using hi), List.getElem?_replicate] at e
    split at e <;> cases e
section
variable {P : Program} {w : World} {K : PySem.W.Frag} {mg : Str → Option Value} {base : Heap}
abbrev cxA (P : Program) (w : World) (K : PySem.W.Frag) (mg : Str → Option Value) (base : Heap) (N : List Str) (qual : Str) (st : Stmt) (f : Addr) (cdv : Value) (A : Around) (outer : List PySem.Env) (s : Shared) (H : Hp) (E : XK) : Cx :=
  cxOf (L2.CX P w) P w K mg base N qual (defScope st) f cdv A outer s H E
abbrev wA (E : XK) : WX := fun cls d _ H => E cls d H
theorem fn_okA {x qual : Str} {st : Stmt} {f : Addr} {fd : FuncData} {N ps : List Str} {k : Nat} {B : SF} (F : Fun K x qual st f fd) (S : FnScope N ps (defScope st))
    (hb : ∀ (cdv : Value) (A : Around) (outer : List PySem.Env) (s : Shared) (H : Hp) (E : XK), Room k (A.deeper (envOfC qual (defScope st) s.heap.objs.size f cdv)) → ASs (cxA P w K mg base N qual st f cdv A outer s H E) (wA E) (defBody st) B) :
    FnOk P w K mg base (L2.CX P w) (k + 1) f fd ps (spA K ps.length (bodyF N.length B)) := by
  refine F.okX S (fun vs H Q E h => h.1) fun cdv A outer s H vs Q E hr h => ⟨_, hb cdv A outer s H E hr, ?_⟩
  obtain ⟨hl, φ, S, ds, rh, r, f⟩ := h
  refine ⟨φ, _, S, rh, rl_start r, ?_⟩
  unfold bodyF at f
  cases z : B (startE N.length ds) S with
  | stuck => rw [z] at f; exact f.elim
  | exc xx S1 => rw [z] at f; exact fun φ' H' cv dx σ' x rh rx => f φ' H' cv dx x rh rx
  | ok o S1 =>
    rw [z] at f
    cases o with
    | nx ρ => exact fun φ' H' σ' x rh rl => f φ' H' .non x rh rv_non
    | ret d => exact f
    | bk ρ => exact f.elim
    | ct ρ => exact f.elim
/-- a def of which nothing is known: level 0 -/
theorem fn_ok0 {f : Addr} {fd : FuncData} {ps : List Str} {n : Nat} {CX : CXT} : FnOk P w K mg base CX 0 f fd ps (spA K n fun _ _ => .stuck) :=
  ⟨fun vs H Q E h => by obtain ⟨_, _, _, _, _, _, z⟩ := h; exact z.elim, fun A outer s H args us vs Q E _ _ _ _ h => by obtain ⟨_, _, _, _, _, _, z⟩ := h; exact z.elim⟩
end
/-- what is raised by a callee is taken -/
def Psd (X : Cx) (W : WX) : Prop := ∀ σ, PassesAt (L2.CX X.prog X.w) X σ (WE W σ)
theorem psd_of {X : Cx} {W : WX} (tk : Takes X W) : Psd X W := fun σ => passAt tk σ
theorem psd0 {X : Cx} : Psd X W0 := fun σ _ _ _ _ _ _ h => by
  obtain ⟨_, _, _, _, _, _, _, _, _, _, _, _, z⟩ := h
  exact z.elim
def eCallD (C : CF) (a : AF) : EF := fun ρ S => (a ρ S).bind fun ds S1 => C ds S1
/-- with defaults behind -/
def eCallDd (C : CF) (dds : List D) (a : AF) : EF := fun ρ S => (a ρ S).bind fun ds S1 => C (ds ++ dds) S1
section
variable {X : Cx} {W : WX} {k : Nat} {f : Addr} {fd : FuncData} {ps : List Str} {n : Nat} {C : CF} {x : Str} {p pos : Pos} {e : Expr} {es : List Expr} {Fr : AF}
theorem spA_of {K : PySem.W.Frag} {φ : List Addr} {H : Hp} {S : Store} {ds : List D} {vs : List V} {Q : VK} {σ : St} (hl : vs.length = n) (rh : RH K φ H S) (r : RVs K φ H ds vs) (f : Fin K W φ H σ (C ds S) Q) : spA K n C vs H Q (WE W σ) := by
  refine ⟨hl, φ, S, ds, rh, r, ?_⟩
  cases z : C ds S with
  | ok d S1 => rw [z] at f; exact f
  | exc xx S1 => rw [z] at f; exact f
  | stuck => rw [z] at f; exact f
theorem lenOk {α : Type} {n : Nat} {ds : List D} {r : Res α} (h : (if ds.length = n then r else .stuck) ≠ .stuck) : ds.length = n := by
  by_cases e : ds.length = n
  · exact e
  · rw [if_neg e] at h; exact absurd rfl h
theorem ae_call (F : FnOk X.prog X.w X.K X.mg X.base (L2.CX X.prog X.w) k f fd ps (spA X.K (e :: es).length C)) (hr : Room k X.A) (hm : X.mg x = some (.ref f)) (hk : PySem.W.keepIn X.K (.ref f) = true) (hb : Binds X.K fd ps []) (hx : Psd X W)
    (ha : AA X W (e :: es) Fr) (hg : Gl X x := by rfl) (hdb : (x == ("__debug__" : Str)) = false := by decide) (he : starEach (e :: es) X.env = (false, eval e X.env) :: starEach es X.env := by rfl) (hpl : (backTo pos (starEach es X.env)).any (·.1) = false := by rfl)
    (hl : ∀ ρ S ds S', Fr ρ S = .ok ds S' → ds.length = (e :: es).length) :
    AE X W (.Call (.Name x p) (e :: es) [] pos) (eCallD C Fr) := by
  refine pe_mono (pe_callSD (E := WE W) F hr hg hm hk hb .nil hx ha hdb he hpl) fun σ H Q ⟨φ, ρ, S, rh, rl, f⟩ => ⟨φ, ρ, S, rh, rl, ?_⟩
  unfold eCallD at f
  cases z : Fr ρ S with
  | stuck => rw [z] at f; exact f.elim
  | exc xx S1 => rw [z] at f; exact f
  | ok ds S1 =>
    rw [z] at f
    intro φ1 H1 vs x1 rh1 rv1
    have f : Fin X.K W φ H σ (C ds S1) Q := f
    rw [List.append_nil]
    exact spA_of (by rw [← rv1.length]; exact hl _ _ _ _ z) rh1 rv1 (f.ext x1)
theorem ae_callDd (dds : List D) {dvs : List V} {dus : List Value} (F : FnOk X.prog X.w X.K X.mg X.base (L2.CX X.prog X.w) k f fd ps (spA X.K ((e :: es).length + dds.length) C)) (hr : Room k X.A) (hm : X.mg x = some (.ref f)) (hk : PySem.W.keepIn X.K (.ref f) = true) (hb : Binds X.K fd ps dus) (hd : Vals dvs dus) (hdd : ∀ φ H, RVs X.K φ H dds dvs) (hx : Psd X W)
    (ha : AA X W (e :: es) Fr) (hg : Gl X x := by rfl) (hdb : (x == ("__debug__" : Str)) = false := by decide) (he : starEach (e :: es) X.env = (false, eval e X.env) :: starEach es X.env := by rfl) (hpl : (backTo pos (starEach es X.env)).any (·.1) = false := by rfl)
    (hl : ∀ ρ S ds S', Fr ρ S = .ok ds S' → ds.length = (e :: es).length) :
    AE X W (.Call (.Name x p) (e :: es) [] pos) (eCallDd C dds Fr) := by
  refine pe_mono (pe_callSD (E := WE W) F hr hg hm hk hb hd hx ha hdb he hpl) fun σ H Q ⟨φ, ρ, S, rh, rl, f⟩ => ⟨φ, ρ, S, rh, rl, ?_⟩
  unfold eCallDd at f
  cases z : Fr ρ S with
  | stuck => rw [z] at f; exact f.elim
  | exc xx S1 => rw [z] at f; exact f
  | ok ds S1 =>
    rw [z] at f
    intro φ1 H1 vs x1 rh1 rv1
    have f : Fin X.K W φ H σ (C (ds ++ dds) S1) Q := f
    exact spA_of (by rw [List.length_append, ← rv1.length, hl _ _ _ _ z, ← (hdd φ1 H1).length]) rh1 (rv1.append (hdd φ1 H1)) (f.ext x1)
end
/-- an argument list has its length -/
theorem len_nil : ∀ ρ S ds S', aNil ρ S = .ok ds S' → ds.length = 0 := fun ρ S ds S' e => by cases e; rfl
theorem len_cons {a : EF} {r : AF} {n : Nat} (h : ∀ ρ S ds S', r ρ S = .ok ds S' → ds.length = n) : ∀ ρ S ds S', aCons a r ρ S = .ok ds S' → ds.length = n + 1 := fun ρ S ds S' e => by
  unfold aCons at e
  cases z : a ρ S with
  | stuck => rw [z] at e; cases e
  | exc _ _ => rw [z] at e; cases e
  | ok d S1 =>
    rw [z, Res.bind_ok] at e
    cases z2 : r ρ S1 with
    | stuck => rw [z2] at e; cases e
    | exc _ _ => rw [z2] at e; cases e
    | ok ds2 S2 =>
      rw [z2, Res.bind_ok] at e
      cases e
      rw [List.length_cons, h _ _ _ _ z2]
end Al

set_option Elab.async false
set_option linter.all false
set_option maxRecDepth 100000
set_option maxHeartbeats 1000000
/-! Al: methods of built-in types, dicts, stores by place. -/
namespace Al
open PySem PySem.Spec PyProof.Rows L2
/-! ### methods -/
abbrev FM := D → List D → Store → Option (D × Store)
def MtA (X : Cx) (id : String) (g : FM) : Prop :=
  MtR X id (fun x xs H Q => ∃ φ S a ds d S', RH X.K φ H S ∧ RV X.K φ H a x ∧ RVs X.K φ H ds xs ∧ g a ds S = some (d, S') ∧ ∀ φ' H' v, Ext X.K φ H φ' H' → RH X.K φ' H' S' → RV X.K φ' H' d v → Q v H')
def tyD (T : String) (d : D) (S : Store) : Bool := match d with
  | .str _ => T == "str"
  | .ref n => match S[n]? with
    | some (.lst _) => T == "list"
    | some (.dct _) => T == "dict"
    | _ => false
  | _ => false
def eM (T : String) (g : FM) (o : EF) (a : AF) : EF := fun ρ S => (o ρ S).bind fun x S1 => if tyD T x S1 = true then (a ρ S1).bind fun ds S2 => .of (g x ds S2) else .stuck
theorem tyD_ok {K : PySem.W.Frag} {φ : List Addr} {H : Hp} {S : Store} {T : String} {d : D} {v : V} (rh : RH K φ H S) (e : tyD T d S = true) (r : RV K φ H d v) : tyV K T v H := by
  cases d with
  | str x => rw [r.str_]; exact eq_of_beq e
  | ref n =>
    simp only [tyD] at e
    split at e
    · rename_i xs e1
      obtain ⟨p, rfl, g, vs, h1, _⟩ := rh.obj e1 r
      exact .inl ⟨eq_of_beq e, vs, .inl (.inl h1)⟩
    · rename_i xs e1
      obtain ⟨p, rfl, g, vs, h1, _⟩ := rh.obj e1 r
      exact .inr (.inr (.inl ⟨eq_of_beq e, .inl ⟨vs, h1⟩⟩))
    · cases e
  | _ => cases e
section
variable {X : Cx} {W : WX} {o e : Expr} {es : List Expr} {Fo : EF} {Fr : AF} {name : Str} {apos cpos : Pos} {T id : String} {g : FM}
theorem ae_m (pa : PlainAttrs T) (slot : Slot T name id) (hty : typeOf (.builtin id) = pure (.type "method_descriptor")) (hm : MtA X id g) (ho : AE X W o Fo) (ha : AA X W (e :: es) Fr)
    (hbase : attributeBase o name X.env (eval o X.env) = eval o X.env := by rfl)
    (hfew : ((backTo cpos (starEach (e :: es) X.env)).all (fun x => !x.1) && (backToKw cpos (keywordEach [] X.env)).all (fun x => x.1.isSome)
      && decide ((e :: es).length + ([] : List Keyword).length + (if ([] : List Keyword).isEmpty then 0 else 1) < 30)) = true := by rfl)
    (hline : (apos.endLine == cpos.line) = true := by rfl) (hs : starEach (e :: es) X.env = (false, eval e X.env) :: starEach es X.env := by rfl) (hplain : (backTo cpos (starEach es X.env)).any (·.1) = false := by rfl) :
    AE X W (.Call (.Attribute o name apos) (e :: es) [] cpos) (eM T g Fo Fr) := by
  refine pe_mono (pe_bm pa slot hty hm ho ha hbase hfew hline hs hplain) fun σ H Q ⟨φ, ρ, S, rh, rl, f⟩ => ⟨φ, ρ, S, rh, rl, (Fin.bind f).imp ?_⟩
  rintro v H1 ⟨φ1, S1, d, e1, rh1, rv1, f1⟩
  split at f1
  · rename_i ty
    refine ⟨tyD_ok rh1 ty rv1, φ1, ρ, S1, rh1, rl.ext e1, (FinA.bind f1).imp ?_⟩
    rintro vs H2 ⟨φ2, S2, ds, e2, rh2, rv2, f2⟩
    obtain ⟨d', S', e, k⟩ := fin_of f2
    exact ⟨φ2, S2, d, ds, d', S', rh2, rv1.ext e2, rv2, e, k⟩
  · exact f1.elim
theorem ae_m0 (pa : PlainAttrs T) (slot : Slot T name id) (hty : typeOf (.builtin id) = pure (.type "method_descriptor")) (hm : MtA X id g) (ho : AE X W o Fo)
    (hbase : attributeBase o name X.env (eval o X.env) = eval o X.env := by rfl) (hline : (apos.endLine == cpos.line) = true := by rfl) : AE X W (.Call (.Attribute o name apos) [] [] cpos) (eM T g Fo aNil) := by
  refine pe_mono (pe_bm0 pa slot hty hm ho hbase hline) fun σ H Q ⟨φ, ρ, S, rh, rl, f⟩ => ⟨φ, ρ, S, rh, rl, (Fin.bind f).imp ?_⟩
  rintro v H1 ⟨φ1, S1, d, e1, rh1, rv1, f1⟩
  split at f1
  · rename_i ty
    have f2 : Fin X.K W φ1 H1 σ (.of (g d [] S1)) Q := f1
    obtain ⟨d', S', e, k⟩ := fin_of f2
    exact ⟨tyD_ok rh1 ty rv1, φ1, S1, d, [], d', S', rh1, rv1, .nil, e, k⟩
  · exact f1.elim
end
/-! lists -/
def appendM : FM
  | .ref n, [y], S => match S[n]? with
    | some (.lst xs) => if xs.length < lim then some (.non, S.set n (.lst (xs ++ [y]))) else none
    | _ => none
  | _, _, _ => none
def extendM : FM
  | .ref n, [.ref m], S => match S[n]?, S[m]? with
    | some (.lst xs), some (.lst ys) => if xs.length + ys.length ≤ lim then some (.non, S.set n (.lst (xs ++ ys))) else none
    | _, _ => none
  | _, _, _ => none
def popM : FM
  | .ref n, [], S => match S[n]? with
    | some (.lst xs) => (xs[xs.length - 1]?).map fun y => (y, S.set n (.lst xs.dropLast))
    | _ => none
  | .ref n, [.int i], S => match S[n]? with
    | some (.lst xs) => if -(2 ^ 63) ≤ i ∧ i < 2 ^ 63 then (ixN xs.length i).bind fun k => (xs[k]?).map fun y => (y, S.set n (.lst (xs.eraseIdx k))) else none
    | _ => none
  | _, _, _ => none
section
variable {X : Cx}
/-- a list is changed -/
theorem set_lst {K : PySem.W.Frag} {φ : List Addr} {H : Hp} {S : Store} {n : Nat} {p : Addr} {vs ws : List V} {ys : List D} {d : D} {v : V} {Q : VK} (rh : RH K φ H S) (g : φ[n]? = some p) (h1 : H p = some (.lst vs)) (r : RVs K φ H ys ws) (rd : RV K φ H d v)
    (k : ∀ φ' H' v, Ext K φ H φ' H' → RH K φ' H' (S.set n (.lst ys)) → RV K φ' H' d v → Q v H') : Q v (upd H p (.lst ws)) := by
  have x := Ext.wr (K := K) (φ := φ) (o := HO.lst ws) (mu_lst h1)
  exact k φ _ v x (rh.set (x := .lst ys) g (mu_lst h1) (fun q hq => by rw [h1] at hq; cases hq) ⟨ws, upd_same, r.ext x⟩) (rd.ext x)
theorem mt_appendA : MtA X "list.append" appendM := by
  intro pins s σ H x xs v us Q I rx rs h
  obtain ⟨φ, S, a, ds, d, S', rh, ra, rd, e, k⟩ := h
  unfold appendM at e
  split at e
  · split at e
    · rename_i n y _ ys e1
      split at e
      · cases e
        rename_i hl
        obtain ⟨p, rfl, g, vs, h1, r⟩ := rh.obj e1 ra
        obtain ⟨w, rfl, rw'⟩ := rvs1 rd
        exact L2.mt_append pins s σ H _ _ v us Q I rx rs ⟨p, vs, w, rfl, rfl, h1, by rw [← r.length, lim_eq]; exact hl, set_lst rh g h1 (r.append (.cons rw' .nil)) rv_non k⟩
      · cases e
    · cases e
  · cases e
theorem mt_extendA : MtA X "list.extend" extendM := by
  intro pins s σ H x xs v us Q I rx rs h
  obtain ⟨φ, S, a, ds, d, S', rh, ra, rd, e, k⟩ := h
  unfold extendM at e
  split at e
  · split at e
    · rename_i n m _ _ ys zs e1 e2
      split at e
      · cases e
        rename_i hl
        obtain ⟨p, rfl, g, vs, h1, r⟩ := rh.obj e1 ra
        obtain ⟨w, rfl, rw'⟩ := rvs1 rd
        obtain ⟨p2, rfl, g2, ws, h2, r2⟩ := rh.obj e2 rw'
        exact L2.mt_extend pins s σ H _ _ v us Q I rx rs ⟨p, p2, vs, ws, rfl, rfl, h1, h2, by rw [← r.length, ← r2.length, lim_eq]; exact hl, set_lst rh g h1 (r.append r2) rv_non k⟩
      · cases e
    · cases e
  · cases e
theorem mt_popA : MtA X "list.pop" popM := by
  intro pins s σ H x xs v us Q I rx rs h
  obtain ⟨φ, S, a, ds, d, S', rh, ra, rd, e, k⟩ := h
  unfold popM at e
  split at e
  · split at e
    · rename_i n _ ys e1
      obtain ⟨y, e2, e3⟩ := mapOpt e
      cases e3
      obtain ⟨p, rfl, g, vs, h1, r⟩ := rh.obj e1 ra
      cases rd.nil_iff
      obtain ⟨w, e4, rw'⟩ := r.get e2
      exact L2.mt_pop pins s σ H _ _ v us Q I rx rs ⟨p, vs, w, rfl, rfl, h1, by rw [← r.length]; exact e4, set_lst rh g h1 r.dropLast rw' k⟩
    · cases e
  · split at e
    · rename_i n i _ ys e1
      split at e
      · rename_i hb
        obtain ⟨j, e2, e3⟩ := bindO e
        obtain ⟨y, e4, e5⟩ := mapOpt e3
        cases e5
        obtain ⟨p, rfl, g, vs, h1, r⟩ := rh.obj e1 ra
        obtain ⟨u1, rfl, ru⟩ := rvs1 rd
        obtain ⟨w, e6, rw'⟩ := r.get e4
        exact L2.mt_popAt pins s σ H _ _ v us Q I rx rs ⟨p, vs, i, j, w, rfl, by rw [ru.int_], h1, hb.1, hb.2, by rw [← r.length]; exact (ixN_seq e2).1, e6, set_lst rh g h1 (r.eraseIdx j) rw' k⟩
      · cases e
    · cases e
  · cases e
end
/-! texts -/
def joinL (s : List Nat) : List (List Nat) → List Nat
  | [] => []
  | [p] => p
  | p :: q :: r => p ++ (s ++ joinL s (q :: r))
def joinM : FM
  | .str s, [.ref n], S => ((lstAt S n).bind (mapO asStr)).bind fun l => if (l.map List.length).sum + l.length * s.length ≤ lim then some (.str (joinL s l), S) else none
  | _, _, _ => none
/-- split by one sign -/
def splitC (c : Nat) : List Nat → List (List Nat)
  | [] => [[]]
  | x :: r => if x = c then [] :: splitC c r else match splitC c r with
    | [] => [[x]]
    | p :: ps => (x :: p) :: ps
section
variable {X : Cx}
theorem joinL_eq (s : List Nat) : ∀ l : List (List Nat), (Str.join (toS s) (l.map toS)) = toS (joinL s l)
  | [] => rfl
  | [p] => rfl
  | p :: q :: r => by
    show toS p ++ toS s ++ Str.join (toS s) ((q :: r).map toS) = _
    rw [joinL_eq s (q :: r), toS_app, toS_app]
    show _ = toS (p ++ (s ++ joinL s (q :: r)))
    rw [List.append_assoc]
theorem mt_joinA : MtA X "str.join" joinM := by
  intro pins s σ H x xs v us Q I rx rs h
  obtain ⟨φ, S, a, ds, d, S', rh, ra, rd, e, k⟩ := h
  unfold joinM at e
  split at e
  · rename_i z n
    obtain ⟨l, e1, e2⟩ := bindO e
    obtain ⟨ys, e3, e4⟩ := bindO e1
    split at e2
    · cases e2
      rename_i hl
      obtain ⟨w, rfl, rw'⟩ := rvs1 rd
      obtain ⟨p, vs, rfl, sq, r⟩ := lstAt_ok rh e3 rw'
      have := asStr_all r e4
      subst this
      refine L2.mt_join pins s σ H _ _ v us Q I rx rs ⟨toS z, p, l.map toS, ra.str_, rfl, .inl sq, ?_, ?_⟩
      · rw [List.map_map, List.length_map, toS_len]
        have : (List.map ((fun x => x.length) ∘ toS) l) = l.map List.length := by
          apply List.map_congr_left
          intro y _
          exact toS_len y
        rw [this]
        exact hl
      · rw [TL.join_eq, joinL_eq]
        exact k φ H _ .refl rh rv_str
    · cases e2
  · cases e
end

/-! ### dicts -/
def dGet (kvs : List (List Nat × D)) (k : List Nat) : Option D := match kvs with
  | [] => none
  | p :: r => if p.1 = k then some p.2 else dGet r k
def dHas (kvs : List (List Nat × D)) (k : List Nat) : Bool := kvs.any fun p => decide (p.1 = k)
def dPut (kvs : List (List Nat × D)) (k : List Nat) (v : D) : List (List Nat × D) := if dHas kvs k = true then kvs.map (fun p => if p.1 = k then (p.1, v) else p) else kvs ++ [(k, v)]
def dDrop (kvs : List (List Nat × D)) (k : List Nat) : List (List Nat × D) := kvs.filter fun p => decide (p.1 ≠ k)
def dMerge (kvs more : List (List Nat × D)) : List (List Nat × D) := more.foldl (fun acc p => dPut acc p.1 p.2) kvs
def dctAt (S : Store) (n : Nat) : Option (List (List Nat × D)) := match S[n]? with
  | some (.dct kvs) => some kvs
  | _ => none
section
variable {K : PySem.W.Frag} {φ : List Addr} {H : Hp}
theorem RKs.length : ∀ {ps : List (List Nat × D)} {qs : List (Key × V)}, RKs K φ H ps qs → ps.length = qs.length
  | [], qs, h => by rw [show qs = [] from h]; rfl
  | p :: ps, qs, h => by
    obtain ⟨x, r, rfl, _, h2⟩ := h
    rw [List.length_cons, List.length_cons, RKs.length h2]
theorem RKs.get : ∀ {ps : List (List Nat × D)} {qs : List (Key × V)} (k : List Nat), RKs K φ H ps qs → (∀ d, dGet ps k = some d → ∃ v, valV qs (.inr (toS k)) = some v ∧ RV K φ H d v) ∧ (dGet ps k = none → valV qs (.inr (toS k)) = none)
  | [], qs, k, h => by rw [show qs = [] from h]; exact ⟨fun d e => (by cases e), fun _ => rfl⟩
  | p :: ps, qs, k, h => by
    obtain ⟨x, r, rfl, ⟨h0, h1⟩, h2⟩ := h
    unfold dGet
    by_cases e : p.1 = k
    · have : x.1 = .inr (toS k) := by rw [h0, e]
      rw [if_pos e, valV_pos this]
      exact ⟨fun d z => (by cases z; exact ⟨_, rfl, h1⟩), fun z => (by cases z)⟩
    · have : ¬ x.1 = .inr (toS k) := by rw [h0]; exact fun z => e (toS_inj (Sum.inr.inj z))
      rw [if_neg e, valV_neg this]
      exact RKs.get k h2
theorem RKs.append : ∀ {ps rs : List (List Nat × D)} {qs ts : List (Key × V)}, RKs K φ H ps qs → RKs K φ H rs ts → RKs K φ H (ps ++ rs) (qs ++ ts)
  | [], rs, qs, ts, h, h' => by rw [show qs = [] from h]; exact h'
  | p :: ps, rs, qs, ts, h, h' => by
    obtain ⟨x, r, rfl, h1, h2⟩ := h
    exact ⟨x, r ++ ts, rfl, h1, RKs.append h2 h'⟩
theorem RKs.has (k : List Nat) : ∀ {ps : List (List Nat × D)} {qs : List (Key × V)}, RKs K φ H ps qs → (qs.any fun kv => decide (kv.1 = .inr (toS k))) = dHas ps k
  | [], qs, h => by rw [show qs = [] from h]; rfl
  | p :: ps, qs, h => by
    obtain ⟨x, r, rfl, ⟨h0, h1⟩, h2⟩ := h
    unfold dHas
    rw [List.any_cons, List.any_cons, RKs.has k h2]
    congr 1
    rw [h0]
    by_cases e : p.1 = k
    · rw [e]; simp
    · rw [decide_eq_false e, decide_eq_false fun z => e (toS_inj (Sum.inr.inj z))]
theorem RKs.repl {d : D} {v : V} (rv : RV K φ H d v) (k : List Nat) : ∀ {ps : List (List Nat × D)} {qs : List (Key × V)}, RKs K φ H ps qs →
    RKs K φ H (ps.map fun p => if p.1 = k then (p.1, d) else p) (qs.map fun kv => if kv.1 = .inr (toS k) then (kv.1, v) else kv)
  | [], qs, h => by rw [show qs = [] from h]; rfl
  | p :: ps, qs, h => by
    obtain ⟨x, r, rfl, ⟨h0, h1⟩, h2⟩ := h
    rw [List.map_cons, List.map_cons]
    refine ⟨_, _, rfl, ?_, RKs.repl rv k h2⟩
    by_cases e : p.1 = k
    · rw [if_pos e, if_pos (by rw [h0, e])]
      exact ⟨h0, rv⟩
    · rw [if_neg e, if_neg (by rw [h0]; exact fun z => e (toS_inj (Sum.inr.inj z)))]
      exact ⟨h0, h1⟩
theorem RKs.put {d : D} {v : V} (rv : RV K φ H d v) (k : List Nat) {ps : List (List Nat × D)} {qs : List (Key × V)} (h : RKs K φ H ps qs) : RKs K φ H (dPut ps k d) (putK qs (.inr (toS k)) v) := by
  unfold dPut putK
  rw [h.has k]
  split
  · exact h.repl rv k
  · exact h.append ⟨_, [], rfl, ⟨rfl, rv⟩, rfl⟩
theorem RKs.drop (k : List Nat) : ∀ {ps : List (List Nat × D)} {qs : List (Key × V)}, RKs K φ H ps qs → RKs K φ H (dDrop ps k) (dropK qs (.inr (toS k)))
  | [], qs, h => by rw [show qs = [] from h]; rfl
  | p :: ps, qs, h => by
    obtain ⟨x, r, rfl, ⟨h0, h1⟩, h2⟩ := h
    have ih := RKs.drop k h2
    unfold dDrop dropK at ih ⊢
    by_cases e : p.1 = k
    · rw [List.filter_cons_of_neg (by simp [e]), List.filter_cons_of_neg (by simp [h0, e])]
      exact ih
    · rw [List.filter_cons_of_pos (by simp [e]), List.filter_cons_of_pos (by rw [h0]; simp only [ne_eq, decide_eq_true_eq]; exact fun z => e (toS_inj (Sum.inr.inj z)))]
      exact ⟨x, _, rfl, ⟨h0, h1⟩, ih⟩
theorem dctAt_ok {S : Store} {n : Nat} {kvs : List (List Nat × D)} {v : V} (rh : RH K φ H S) (e : dctAt S n = some kvs) (r : RV K φ H (.ref n) v) : ∃ p vs, v = .ref p ∧ φ[n]? = some p ∧ H p = some (.dK vs) ∧ RKs K φ H kvs vs := by
  unfold dctAt at e
  split at e
  · rename_i ys e1
    cases e
    obtain ⟨p, rfl, g, vs, h1, rs⟩ := rh.obj e1 r
    exact ⟨p, vs, rfl, g, h1, rs⟩
  · cases e
/-- a dict is changed -/
theorem set_dct {S : Store} {n : Nat} {p : Addr} {vs ws : List (Key × V)} {ys : List (List Nat × D)} (rh : RH K φ H S) (g : φ[n]? = some p) (h1 : H p = some (.dK vs)) (r : RKs K φ H ys ws) :
    Ext K φ H φ (upd H p (.dK ws)) ∧ RH K φ (upd H p (.dK ws)) (S.set n (.dct ys)) := by
  have x := Ext.wr (K := K) (φ := φ) (o := HO.dK ws) (mu_dK h1)
  exact ⟨x, rh.set (x := .dct ys) g (mu_dK h1) (fun q hq => by rw [h1] at hq; cases hq) ⟨ws, upd_same, r.ext x⟩⟩
end
/-! {}, {k: v, ..} -/
def eD0 : EF := fun _ S => .ok (.ref S.length) (S ++ [.dct []])
abbrev PFs := Env → Store → Res (List (D × D))
def qNil : PFs := fun _ S => .ok [] S
def qCons (k v : EF) (r : PFs) : PFs := fun ρ S => (k ρ S).bind fun x S1 => (v ρ S1).bind fun y S2 => (r ρ S2).bind fun ps S3 => .ok ((x, y) :: ps) S3
def asKey (p : D × D) : Option (List Nat × D) := match p.1 with
  | .str k => some (k, p.2)
  | _ => none
def eDisp (q : PFs) : EF := fun ρ S => (q ρ (S ++ [.dct []])).bind fun ps S1 => match S1[S.length]?, mapO asKey ps with
  | some (.dct []), some kvs => if kvs.length ≤ 15 then .ok (.ref S.length) (S1.set S.length (.dct (dMerge [] kvs))) else .stuck
  | _, _ => .stuck

theorem new_dct {K : PySem.W.Frag} {φ : List Addr} {H : Hp} {S : Store} {ks : List (List Nat × D)} {vs : List (Key × V)} {q : Addr} (rh : RH K φ H S) (r : RKs K φ H ks vs) (hq : H q = none) :
    Ext K φ H (φ ++ [q]) (upd H q (.dK vs)) ∧ RH K (φ ++ [q]) (upd H q (.dK vs)) (S ++ [.dct ks]) ∧ RV K (φ ++ [q]) (upd H q (.dK vs)) (.ref S.length) (.ref q) := by
  have x := Ext.num (K := K) (φ := φ) (o := HO.dK vs) hq
  exact ⟨x, rh.alloc (x := .dct ks) (o := HO.dK vs) hq ⟨_, upd_same, r.ext x⟩, rv_ref (by rw [← rh.len]; simp)⟩
section
variable {X : Cx} {W : WX} {pos : Pos}
theorem ae_d0 : AE X W (.Dict [] [] pos) eD0 := pe_mono pe_dnewK fun σ H Q ⟨φ, ρ, S, rh, rl, f⟩ p hp => by
  obtain ⟨x, a, b⟩ := new_dct (ks := []) (vs := []) rh rfl hp
  exact f _ _ _ x a b
/-- the pairs of a display -/
structure AQ (X : Cx) (W : WX) (pos : Pos) (keys : List (Option Expr)) (values : List Expr) (F : PFs) : Prop where
  trs : ∃ trs, PPs X pos keys values trs ∧ ∀ σ H (Q : List (V × V) → Hp → Prop) φ ρ S, RH X.K φ H S → RL X.K φ H σ ρ → (match F ρ S with
    | .ok ps S' => ∀ φ' H' vs, Ext X.K φ H φ' H' → RH X.K φ' H' S' → (∃ ks ws, RVs X.K φ' H' (ps.map (·.1)) ks ∧ RVs X.K φ' H' (ps.map (·.2)) ws ∧ vs = ks.zip ws) → Q vs H'
    | .exc x S' => ∀ φ' H' cv dx, Ext X.K φ H φ' H' → RH X.K φ' H' S' → RX X.K φ' H' x cv dx → W cv dx σ H'
    | .stuck => False) → tPairs trs σ H Q
theorem aq_nil : AQ X W pos [] [] qNil := ⟨⟨[], pps_nil, fun σ H Q φ ρ S rh rl f => f φ H [] .refl rh ⟨[], [], .nil, .nil, rfl⟩⟩⟩
theorem aq_cons {k v : Expr} {ks : List (Option Expr)} {vs : List Expr} {Fk Fv : EF} {Fq : PFs} (hk : AE X W k Fk) (hv : AE X W v Fv) (hr : AQ X W pos ks vs Fq) : AQ X W pos (some k :: ks) (v :: vs) (qCons Fk Fv Fq) := by
  obtain ⟨trs, h1, h2⟩ := hr.trs
  refine ⟨⟨_, pps_cons hk hv h1, fun σ H Q φ ρ S rh rl f => ?_⟩⟩
  unfold qCons at f
  refine ⟨φ, ρ, S, rh, rl, ?_⟩
  cases z : Fk ρ S with
  | stuck => rw [z] at f; exact f.elim
  | exc x S1 => rw [z] at f; exact f
  | ok d1 S1 =>
    rw [z, Res.bind_ok] at f
    intro φ1 H1 v1 x1 rh1 rv1
    refine ⟨φ1, ρ, S1, rh1, rl.ext x1, ?_⟩
    cases z2 : Fv ρ S1 with
    | stuck => rw [z2] at f; exact f.elim
    | exc x S2 => rw [z2] at f; exact fun φ' H' cv dx x => f φ' H' cv dx (x1.trans x)
    | ok d2 S2 =>
      rw [z2, Res.bind_ok] at f
      intro φ2 H2 v2 x2 rh2 rv2
      refine h2 σ H2 _ φ2 ρ S2 rh2 ((rl.ext x1).ext x2) ?_
      cases z3 : Fq ρ S2 with
      | stuck => rw [z3] at f; exact f.elim
      | exc x S3 => rw [z3] at f; exact fun φ' H' cv dx x => f φ' H' cv dx ((x1.trans x2).trans x)
      | ok ps S3 =>
        rw [z3, Res.bind_ok] at f
        intro φ3 H3 vs3 x3 rh3 ⟨ks3, ws3, r1, r2, e3⟩
        exact f φ3 H3 _ ((x1.trans x2).trans x3) rh3 ⟨v1 :: ks3, v2 :: ws3, .cons ((rv1.ext x2).ext x3) r1, .cons (rv2.ext x3) r2, by rw [e3]; rfl⟩
theorem asKey_all {K : PySem.W.Frag} {φ : List Addr} {H : Hp} : ∀ {ps : List (D × D)} {kvs : List (List Nat × D)} {ks ws : List V}, mapO asKey ps = some kvs → RVs K φ H (ps.map (·.1)) ks → RVs K φ H (ps.map (·.2)) ws →
    ∃ qs : List (Key × V), ks.zip ws = qs.map (fun kv => (kV kv.1, kv.2)) ∧ RKs K φ H kvs qs ∧ qs.length = kvs.length
  | [], kvs, ks, ws, e, h1, h2 => by
    cases e
    cases h1.nil_iff
    exact ⟨[], rfl, rfl, rfl⟩
  | p :: ps, kvs, ks, ws, e, h1, h2 => by
    obtain ⟨v, r, rfl, a1, a2⟩ := RVs.cons_iff h1
    obtain ⟨v2, r2, rfl, b1, b2⟩ := RVs.cons_iff h2
    simp only [mapO] at e
    split at e
    · rename_i y ys e1 e2
      cases e
      obtain ⟨qs, q1, q2, q3⟩ := asKey_all e2 a2 b2
      unfold asKey at e1
      split at e1
      · rename_i k ek
        cases e1
        have a1 : RV K φ H p.1 v := a1
        rw [ek] at a1
        refine ⟨(.inr (toS k), v2) :: qs, ?_, ⟨_, _, rfl, ⟨rfl, b1⟩, q2⟩, by simp [q3]⟩
        rw [List.zip_cons_cons, q1, a1.str_]
        rfl
      · cases e1
    · cases e
theorem RKs.merge {K : PySem.W.Frag} {φ : List Addr} {H : Hp} : ∀ {more : List (List Nat × D)} {rs : List (Key × V)} {kvs : List (List Nat × D)} {vs : List (Key × V)}, RKs K φ H more rs → RKs K φ H kvs vs → RKs K φ H (dMerge kvs more) (mergeK vs rs)
  | [], rs, kvs, vs, h, h2 => by rw [show rs = [] from h]; exact h2
  | p :: ps, rs, kvs, vs, h, h2 => by
    obtain ⟨x, r, rfl, ⟨h0, h1⟩, h3⟩ := h
    show RKs K φ H (dMerge (dPut kvs p.1 p.2) ps) (mergeK (putK vs x.1 x.2) r)
    rw [h0]
    exact RKs.merge h3 (h2.put h1 p.1)
theorem ae_disp {keys : List (Option Expr)} {values : List Expr} {Fq : PFs} (h : AQ X W pos keys values Fq) (hall : keys.all (·.isSome) = true := by rfl) (hl : keys.length = values.length := by rfl) (h0 : keys ≠ [] := by exact fun z => nomatch z) (h15 : keys.length ≤ 15 := by decide) : AE X W (.Dict keys values pos) (eDisp Fq) := by
  obtain ⟨trs, h1, h2⟩ := h.trs
  refine pe_mono (pe_disp h1 hall hl h0 h15) fun σ H Q ⟨φ, ρ, S, rh, rl, f⟩ p hp => ?_
  obtain ⟨x, a, b⟩ := new_dct (ks := []) (vs := []) rh rfl hp
  refine h2 σ _ _ _ ρ (S ++ [.dct []]) a (rl.ext x) ?_
  unfold eDisp at f
  cases z : Fq ρ (S ++ [.dct []]) with
  | stuck => rw [z] at f; exact f.elim
  | exc xx S1 => rw [z] at f; exact fun φ' H' cv dx y => f φ' H' cv dx (x.trans y)
  | ok ps S1 =>
    rw [z, Res.bind_ok] at f
    intro φ1 H1 vs x1 rh1 ⟨ks, ws, r1, r2, ev⟩
    split at f
    · rename_i kvs e1 e2
      split at f
      · rename_i hl15
        have gp : φ1[S.length]? = some p := pre_get x1.pre (by rw [← rh.len]; simp)
        obtain ⟨vs0, hv0, r0⟩ := rh1.at_ _ _ _ e1 gp
        have e0 : vs0 = [] := r0
        subst e0
        obtain ⟨qs, q1, q2, q3⟩ := asKey_all e2 r1 r2
        refine ⟨hv0, qs, by rw [ev, q1], by rw [q3]; exact hl15, ?_⟩
        obtain ⟨x3, rh3⟩ := set_dct rh1 gp hv0 (q2.merge (kvs := []) (vs := []) rfl)
        exact f _ _ _ ((x.trans x1).trans x3) rh3 (rv_ref gp)
      · exact f.elim
    · exact f.elim
end
/-! d[k], k in d, d[k] = v -/
def dixO : F2
  | .ref n, .str k, S => ((dctAt S n).bind fun kvs => dGet kvs k).map fun d => (d, S)
  | _, _, _ => none
def dinB (a b : D) (S : Store) : Option Bool := match a, b with
  | .str k, .ref n => (dctAt S n).map fun kvs => (dGet kvs k).isSome
  | _, _ => none
def dinO : F2 := fun a b S => (dinB a b S).map fun k => (.bl k, S)
def dnotInO : F2 := fun a b S => (dinB a b S).map fun k => (.bl (!k), S)
/-- o[i] = v -/
def putO (o i v : D) (S : Store) : Option Store := match o, i with
  | .ref n, .str k => (dctAt S n).bind fun kvs => if kvs.length < lim then some (S.set n (.dct (dPut kvs k v))) else none
  | _, _ => none
def lputO (o i v : D) (S : Store) : Option Store := match o, i with
  | .ref n, .int k => match S[n]? with
    | some (.lst xs) => (ixN xs.length k).map fun j => S.set n (.lst (xs.set j v))
    | _ => none
  | _, _ => none
def sPut (g : D → D → D → Store → Option Store) (v o i : EF) : SF := fun ρ S => (v ρ S).bind fun x S1 => (o ρ S1).bind fun y S2 => (i ρ S2).bind fun z S3 => match g y z x S3 with
  | some S4 => .ok (.nx ρ) S4
  | none => .stuck
section
variable {X : Cx} {W : WX} {o i value : Expr} {Fo Fi Fv : EF} {pos pos' : Pos}
theorem ae_dget (hu : X.A.units + 1 < cLine) (ho : AE X W o Fo) (hi : AE X W i Fi) (hs : NoSl i := by exact fun _ _ => rfl) : AE X W (.Subscript o i pos) (eOp dixO Fo Fi) := by
  refine pe_mono (pe_dget hu ho hi hs) fun σ H Q h => ?_
  refine (two_parts h).imp fun x H1 h1 => h1.imp fun y H2 ⟨φ, S, dx, dy, rh, rx, ry, fi⟩ => ?_
  obtain ⟨d, S', e, k⟩ := fin_of fi
  unfold dixO at e
  split at e
  · obtain ⟨d', e1, e2⟩ := mapOpt e
    cases e2
    obtain ⟨kvs, e3, e4⟩ := bindO e1
    obtain ⟨p, vs, rfl, g, h1, r⟩ := dctAt_ok rh e3 rx
    obtain ⟨v, e5, rv⟩ := (r.get _).1 _ e4
    exact ⟨p, v, rfl, by rw [ry.str_, ← e5]; exact DGet.k (k := .inr _) h1, k φ H2 v .refl rh rv⟩
  · cases e
theorem din_run {K : PySem.W.Frag} {φ : List Addr} {H : Hp} {S : Store} {a b : D} {x y : V} {t : Bool} (rh : RH K φ H S) (ra : RV K φ H a y) (rb : RV K φ H b x) (e : dinB a b S = some t) : ∃ p ov, x = .ref p ∧ DGet H p y ov ∧ ov.isSome = t := by
  unfold dinB at e
  split at e
  · obtain ⟨kvs, e1, e2⟩ := mapOpt e
    obtain ⟨p, vs, rfl, g, h1, r⟩ := dctAt_ok rh e1 rb
    refine ⟨p, _, rfl, by rw [ra.str_]; exact DGet.k (k := .inr _) h1, ?_⟩
    rw [← e2]
    rename_i k _
    cases z : dGet kvs k with
    | none => rw [(r.get k).2 z]; rfl
    | some d => obtain ⟨v, e5, _⟩ := (r.get k).1 d z; rw [e5]; rfl
  · cases e
theorem ae_din (hu : X.A.units + 1 < cLine) (hi : AE X W i Fi) (ho : AE X W o Fo) (h1 : behindInMarks .In o = false := by rfl) : AE X W (.Compare i [.In] [o] pos) (eOp dinO Fi Fo) := by
  refine pe_mono (pe_cmp (pc_din hu hi ho) h1) fun σ H Q h => ?_
  refine (two_parts h).imp fun y H1 h1 => h1.imp fun x H2 ⟨φ, S, dx, dy, rh, rx, ry, fi⟩ => ?_
  obtain ⟨d, S', e, k⟩ := fin_of fi
  obtain ⟨t, e1, e2⟩ := mapOpt e
  cases e2
  obtain ⟨p, ov, q1, q2, q3⟩ := din_run rh rx ry e1
  exact ⟨p, ov, q1, q2, by rw [q3]; exact k φ H2 _ .refl rh rv_bl⟩
theorem ae_dnotin (hu : X.A.units + 1 < cLine) (hi : AE X W i Fi) (ho : AE X W o Fo) (h1 : behindInMarks .NotIn o = false := by rfl) : AE X W (.Compare i [.NotIn] [o] pos) (eOp dnotInO Fi Fo) := by
  refine pe_mono (pe_cmp (pc_dnotin hu hi ho) h1) fun σ H Q h => ?_
  refine (two_parts h).imp fun y H1 h1 => h1.imp fun x H2 ⟨φ, S, dx, dy, rh, rx, ry, fi⟩ => ?_
  obtain ⟨d, S', e, k⟩ := fin_of fi
  obtain ⟨t, e1, e2⟩ := mapOpt e
  cases e2
  obtain ⟨p, ov, q1, q2, q3⟩ := din_run rh rx ry e1
  exact ⟨p, ov, q1, q2, by rw [q3]; exact k φ H2 _ .refl rh rv_bl⟩
theorem at_din (hu : X.A.units + 1 < cLine) (hi : AE X W i Fi) (ho : AE X W o Fo) (h1 : behindInMarks .In o = false := by rfl) : AT X W (.Compare i [.In] [o] pos) (tOf (eOp dinO Fi Fo)) := by
  refine pt_mono (pt_cmp (pc_din hu hi ho) h1) fun σ H Q h => ?_
  refine (two_parts (test_run h)).imp fun y H1 h1 => h1.imp fun x H2 ⟨φ, S, dx, dy, rh, rx, ry, fi⟩ => ?_
  obtain ⟨d, S', e, k⟩ := fin_of fi
  obtain ⟨t, e1, e2⟩ := mapOpt e
  cases e2
  obtain ⟨p, ov, q1, q2, q3⟩ := din_run rh rx ry e1
  exact ⟨p, ov, q1, q2, by rw [q3]; exact k φ H2 _ .refl rh rv_bl⟩
theorem at_dnotin (hu : X.A.units + 1 < cLine) (hi : AE X W i Fi) (ho : AE X W o Fo) (h1 : behindInMarks .NotIn o = false := by rfl) : AT X W (.Compare i [.NotIn] [o] pos) (tOf (eOp dnotInO Fi Fo)) := by
  refine pt_mono (pt_cmp (pc_dnotin hu hi ho) h1) fun σ H Q h => ?_
  refine (two_parts (test_run h)).imp fun y H1 h1 => h1.imp fun x H2 ⟨φ, S, dx, dy, rh, rx, ry, fi⟩ => ?_
  obtain ⟨d, S', e, k⟩ := fin_of fi
  obtain ⟨t, e1, e2⟩ := mapOpt e
  cases e2
  obtain ⟨p, ov, q1, q2, q3⟩ := din_run rh rx ry e1
  exact ⟨p, ov, q1, q2, by rw [q3]; exact k φ H2 _ .refl rh rv_bl⟩
/-- the three parts of a store -/
theorem put_run {K : PySem.W.Frag} {g : D → D → D → Store → Option Store} {D' : Ends} {σ : St} {H : Hp} (h : tFS K W (sPut g Fv Fo Fi) D' σ H) :
    tF K W Fv σ H fun v H1 => tF K W Fo σ H1 fun x H2 => tF K W Fi σ H2 fun y H3 => ∃ φ S dv dx dy S', RH K φ H3 S ∧ RV K φ H3 dv v ∧ RV K φ H3 dx x ∧ RV K φ H3 dy y ∧ g dx dy dv S = some S' ∧ ∀ φ' H', Ext K φ H3 φ' H' → RH K φ' H' S' → D'.nx σ H' := by
  obtain ⟨φ, ρ, S, rh, rl, f⟩ := h
  refine ⟨φ, ρ, S, rh, rl, (Fin.bindS trivial f).imp ?_⟩
  rintro v H1 ⟨φ1, S1, d1, e1, rh1, rv1, f1⟩
  refine ⟨φ1, ρ, S1, rh1, rl.ext e1, (Fin.bindS trivial f1).imp ?_⟩
  rintro x H2 ⟨φ2, S2, d2, e2, rh2, rv2, f2⟩
  refine ⟨φ2, ρ, S2, rh2, (rl.ext e1).ext e2, (Fin.bindS trivial f2).imp ?_⟩
  rintro y H3 ⟨φ3, S3, d3, e3, rh3, rv3, f3⟩
  split at f3
  · rename_i S4 eg
    exact ⟨φ3, S3, d1, d2, d3, S4, rh3, (rv1.ext e2).ext e3, rv2.ext e3, rv3, eg, fun φ' H' x' rh' => f3 φ' H' σ x' rh' ((((rl.ext e1).ext e2).ext e3).ext x')⟩
  · exact f3.elim
theorem as_dput (hu : X.A.units + 1 < cLine) (ho : AE X W o Fo) (hi : AE X W i Fi) (hv : AE X W value Fv) (hs : swapsWith value (some (.Subscript o i pos')) pos.line X.env = pure false := by rfl) : AS X W (.Assign [.Subscript o i pos'] value pos) (sPut putO Fv Fo Fi) := by
  refine ps_mono (ps_dput hu ho hi hv hs) fun D' σ H h => ?_
  refine (put_run h).imp fun v H1 h1 => h1.imp fun x H2 h2 => h2.imp fun y H3 ⟨φ, S, dv, dx, dy, S', rh, rv, rx, ry, e, k⟩ => ?_
  unfold putO at e
  split at e
  · obtain ⟨kvs, e1, e2⟩ := bindO e
    split at e2
    · cases e2
      rename_i hl
      obtain ⟨p, vs, rfl, g, h1, r⟩ := dctAt_ok rh e1 rx
      obtain ⟨x3, rh3⟩ := set_dct rh g h1 (r.put rv _)
      exact ⟨p, _, rfl, by rw [ry.str_]; exact DPut.k (k := .inr _) h1 (by rw [← r.length, lim_eq]; exact hl), k φ _ x3 rh3⟩
    · cases e2
  · cases e
theorem as_lput (ho : AE X W o Fo) (hi : AE X W i Fi) (hv : AE X W value Fv)
    (ha : ∀ v, assign (.Subscript o i pos') X.env v = (do
      let ov ← holding [v] (eval o X.env)
      let iv ← holding [v, ov] (eval i X.env)
      standAt pos'
      holding [v, ov, iv] (setItem ov iv v)
      release [v, ov, iv] []) := by intro _; rfl) (hs : swapsWithSole [.Subscript o i pos'] value pos.line X.env = pure false := by rfl) (hw : swappedStores [.Subscript o i pos'] value X.env = pure none := by rfl)
    (h1 : (assignEach [.Subscript o i pos'] X.env).map (·.2) = [assign (.Subscript o i pos') X.env] := by rfl) : AS X W (.Assign [.Subscript o i pos'] value pos) (sPut lputO Fv Fo Fi) := by
  refine ps_mono (ps_asg hv (pg_sub ho hi set_list ha) hs hw h1) fun D' σ H h => ?_
  refine (put_run h).imp fun v H1 h1 => h1.imp fun x H2 h2 => h2.imp fun y H3 ⟨φ, S, dv, dx, dy, S', rh, rv, rx, ry, e, k⟩ => ?_
  unfold lputO at e
  split at e
  · split at e
    · rename_i ys e1
      obtain ⟨j, e2, e3⟩ := mapOpt e
      cases e3
      obtain ⟨p, rfl, g, vs, h1, r⟩ := rh.obj e1 rx
      refine ⟨p, vs, _, j, rfl, ry.int_, h1, by rw [← r.length]; exact e2, ?_⟩
      have x3 := Ext.wr (K := X.K) (φ := φ) (o := HO.lst (vs.set j v)) (mu_lst h1)
      exact k φ _ x3 (rh.set (x := .lst (ys.set j dv)) g (mu_lst h1) (fun q hq => by rw [h1] at hq; cases hq) ⟨_, upd_same, (r.set rv j).ext x3⟩)
    · cases e
  · cases e
end
end Al

set_option Elab.async false
set_option linter.all false
set_option maxRecDepth 100000
set_option maxHeartbeats 1000000
/-! Al: defs again, with what is known of the guards (repr of containers asks for it). -/
namespace Al
open PySem PySem.Spec PyProof.Rows L2
/-- room, and no repr under way -/
structure RoomG (k : Nat) (A : Around) : Prop where
  rm : Room k A
  gd : A.guards = some []
theorem RoomG.deeper {k : Nat} {A : Around} (r : RoomG (k + 1) A) (env : PySem.Env) : RoomG k (A.deeper env) := ⟨r.rm.deeper env, r.gd⟩
/-- a def that keeps its promise where no repr is under way -/
structure FnG (P : Program) (w : World) (K : PySem.W.Frag) (mg : Str → Option Value) (base : Heap) (k : Nat) (f : Addr) (fd : FuncData) (ps : List Str) (sp : Sp) : Prop where
  cnt : ∀ vs H Q E, sp vs H Q E → vs.length = ps.length
  go : ∀ (A : Around) (rest : List PySem.Env) (z : Shared) (H : Hp) (ar : Args) (us : List Value) (vs : List V) (Q : VK) (E : XK), RoomG k A → Env0 P w K mg base A rest z H → BindsTo z fd ar (ps.zip us) → Vals vs us → sp vs H Q E →
    codeAny (model P w) A (.call (.ref f) ar) (CR (L2.CX P w) rest P w H z Q E) z
theorem FnG.zero {P : Program} {w : World} {K : PySem.W.Frag} {mg : Str → Option Value} {base : Heap} {f : Addr} {fd : FuncData} {ps : List Str} {n k : Nat} : FnG P w K mg base k f fd ps (spA K n fun _ _ => .stuck) :=
  ⟨fun vs H Q E h => by obtain ⟨_, _, _, _, _, _, z⟩ := h; exact z.elim, fun A rest z H ar us vs Q E _ _ _ _ h => by obtain ⟨_, _, _, _, _, _, z⟩ := h; exact z.elim⟩
section
variable {P : Program} {w : World} {K : PySem.W.Frag} {mg : Str → Option Value} {base : Heap}
theorem fn_okG {x qual : Str} {st : Stmt} {f : Addr} {fd : FuncData} {N ps : List Str} {k : Nat} {B : SF} (F : Fun K x qual st f fd) (S : FnScope N ps (defScope st))
    (hb : ∀ (cdv : Value) (A : Around) (outer : List PySem.Env) (s : Shared) (H : Hp) (E : XK), RoomG k (A.deeper (envOfC qual (defScope st) s.heap.objs.size f cdv)) → ASs (cxA P w K mg base N qual st f cdv A outer s H E) (wA E) (defBody st) B) :
    FnG P w K mg base (k + 1) f fd ps (spA K ps.length (bodyF N.length B)) := by
  obtain ⟨oc, od, kV, doc, pm, an, cdv, ct, osl, rfl, lk, hcd⟩ := F.ex
  refine ⟨fun vs H Q E h => h.1, fun A rest z H ar us vs Q E room e0 bd rel pr => ?_⟩
  have inH : K.In z.heap := e0.mod.kin.keeps fun b o q => (e0.bs b o q).1
  have kinds : ∀ y ∈ ps.zip us, (defScope st).names.lookup y.1 = some .local ∨ ((defScope st).names.lookup y.1 = some .cell ∧ ((cellsFrom (z.heap.objs.size + 1) (defScope st).names []).lookup y.1).isSome = true) := by
    rintro ⟨n, v⟩ hy
    exact (S.par n (List.of_mem_zip hy).1).imp id fun q => ⟨q, PySem.W.cellsFrom_some _ _ _ (.inl q)⟩
  refine codeAny_call_function room.rm.depth (inH _ _ lk) rfl S.co S.gen rfl (PySem.W.codeRec_of inH hcd) (bd _ _ _ _ ?_)
  refine wpAny_newFunctionEnv_cells S.kind kinds ?_
  rintro env rfl s1 x
  refine ⟨(e0.mod.nolimit.keeps fun b o q => (e0.bs b o q).1).keeps x.toInCall.keep, codeAny_func ?_⟩
  have I0 : Inv (cxA P w K mg base N qual st f cdv A rest z H E) [] (L2.start N vs) H s1 := inv_start S room.rm.hd e0 pr.1 rel x
  obtain ⟨hl, φ, S0, ds, rh, r, f0⟩ := pr
  have T : tFS K (wA E) B { nx := fun _ H' => Q .non H', rt := Q } (L2.start N vs) H := by
    refine ⟨φ, _, S0, rh, rl_start r, ?_⟩
    unfold bodyF at f0
    cases zz : B (startE N.length ds) S0 with
    | stuck => rw [zz] at f0; exact f0.elim
    | exc xx S1 => rw [zz] at f0; exact fun φ' H' cv dx σ' x rh rx => f0 φ' H' cv dx x rh rx
    | ok o S1 =>
      rw [zz] at f0
      cases o with
      | nx ρ => exact fun φ' H' σ' x rh rl => f0 φ' H' .non x rh rv_non
      | ret d => exact f0
      | bk ρ => exact f0.elim
      | ct ρ => exact f0.elim
  refine wpAny_mono ((hb cdv A rest z H E (room.deeper _)).run [] s1 _ H _ I0 T) (fun fl s2 out => ?_) fun _ _ out => out
  cases fl with
  | ret u => obtain ⟨v, σ2, H2, J, rv, q⟩ := out; exact ⟨v, H2, J.os, J.bare, J.base, J.hok, rv, q⟩
  | next => obtain ⟨σ2, H2, J, q⟩ := out; exact ⟨.non, H2, J.os, J.bare, J.base, J.hok, rfl, q⟩
  | brk => exact out.elim fun _ h => h.elim fun _ h => h.2.elim
  | cont => exact out.elim fun _ h => h.elim fun _ h => h.2.elim
end
section
variable {X : Cx} {W : WX} {k : Nat} {f : Addr} {fd : FuncData} {ps : List Str} {n : Nat} {C : CF} {x : Str} {p pos : Pos} {e : Expr} {es : List Expr} {Fr : AF}
theorem ae_callG (F : FnG X.prog X.w X.K X.mg X.base k f fd ps (spA X.K (e :: es).length C)) (hr : RoomG k X.A) (hm : X.mg x = some (.ref f)) (hk : PySem.W.keepIn X.K (.ref f) = true) (hb : Binds X.K fd ps []) (hx : Psd X W)
    (ha : AA X W (e :: es) Fr) (hl : ∀ ρ S ds S', Fr ρ S = .ok ds S' → ds.length = (e :: es).length)
    (hg : Gl X x := by rfl) (hdb : (x == ("__debug__" : Str)) = false := by decide) (he : starEach (e :: es) X.env = (false, eval e X.env) :: starEach es X.env := by rfl) (hpl : (backTo pos (starEach es X.env)).any (·.1) = false := by rfl) :
    AE X W (.Call (.Name x p) (e :: es) [] pos) (eCallD C Fr) := by
  refine ⟨fun pins s σ H Q I ⟨φ, ρ, S, rh, rl, fi⟩ => ?_⟩
  refine wpAny_Call_Name_kw (ld_glob I hg hm ?_ hdb)
  have T : tFA X.K W Fr σ H fun vs H1 => spA X.K (e :: es).length C vs H1 Q (WE W σ) := by
    refine ⟨φ, ρ, S, rh, rl, ?_⟩
    unfold eCallD at fi
    cases z : Fr ρ S with
    | stuck => rw [z] at fi; exact fi.elim
    | exc xx S1 => rw [z] at fi; exact fi
    | ok ds S1 =>
      rw [z] at fi
      intro φ1 H1 vs x1 rh1 rv1
      have fi : Fin X.K W φ H σ (C ds S1) Q := fi
      exact spA_of (by rw [← rv1.length]; exact hl _ _ _ _ z) rh1 rv1 (fi.ext x1)
  refine PySem.W.callWith_K (h₀ := X.base) I.ok.mod.kin hk (thn (ha.run pos pins s σ H _ I T) ?_) he hpl
  rintro us s1 ⟨vs, H1, I1, r, q⟩
  refine ⟨I1.kIn, ?_⟩
  have hb1 := hb s1 us I1.kIn (by rw [List.append_nil, ← r.length]; exact F.cnt _ _ _ _ q)
  rw [List.append_nil] at hb1
  refine wpAny_call (codeAny_mono (F.go X.A X.stack s1 H1 ⟨us, []⟩ us vs Q (WE W σ) hr I1.env0 hb1 r q) ?_)
  rintro (e1 | fl) s2 out
  · exact hx σ pins H1 s1 e1 s2 I1 out
  · cases fl with
    | ret u => exact I1.after out
    | next => exact out.elim
    | brk => exact out.elim
    | cont => exact out.elim
end
end Al

set_option Elab.async false
set_option linter.all false
set_option maxRecDepth 100000
set_option maxHeartbeats 1000000
/-! Al: the end of a law, for defs with guards. -/
namespace Al
open PySem PySem.Spec PyProof.Rows L2
section
variable {P : Program} {w : World} {K : PySem.W.Frag} {mg mb : Str → Option Value} {k : Nat} {fa a : Addr} {fd : FuncData} {x : Str} {sp : Sp} {z : Shared} {vs : List Value} {ns : List Int}
theorem noDict (lay : z.heap.get? a = some { cls := .type "list", data := .seq vs.toArray }) {H : Hp} (hA : ∀ b, H b ≠ none → b = a) {b : Addr} {o : Obj} {es : Array DictEntry} {ep : Nat} (e : z.heap.get? b = some o) (d : o.data = .dict es ep) : H b = none := by
  by_cases q : H b = none
  · exact q
  · obtain rfl := hA b q
    rw [lay] at e
    cases e
    cases d
theorem end_run {H : Hp} (KX : K.In z.heap) (hns : z.heap.Ns mainGlobals mg) (hb : z.heap.Ns builtinsNs mb) (hbb : ∀ x : Str, x ≠ "__name__" → mb x = bootBuiltins x) (hlim : z.heap.NoLimit) (hg : z.gens = #[])
    (lay : z.heap.get? a = some { cls := .type "list", data := .seq vs.toArray }) (hr : RoomG k callerA)
    (F : ∀ base : Heap, K.In base → base.Ns mainGlobals mg → FnG P w K mg base k fa fd [x] sp) (hbind : ∀ (s : Shared) (u : Value), BindsTo s fd ⟨[u], []⟩ [(x, u)])
    (hsp : sp [.ref a] H (fun v _ => v = .bl true) fun _ _ _ => False) (hO : Only H) (hok : HOk P w H z.heap) (hA : ∀ b, H b ≠ none → b = a) (hK : H a ≠ none → K.lookup a = none) :
    codeAny (model P w) callerA (.call (.ref fa) ⟨[.ref a], []⟩) (fun r s' => r = .ok (.ret (.bool true)) ∧ OldK z.heap s'.heap ∧ s'.os = z.os ∧ AllBare s'.gens) z := by
  have below : ∀ {b : Addr} {m : Str → Option Value}, z.heap.Ns b m → (hidT z.heap H).Ns b m := by
    rintro b m ⟨o, es, ep, e, d, r⟩
    exact ⟨o, es, ep, hidT_get e (noDict lay hA e d), d, r⟩
  have inB : K.In (hidT z.heap H) := by
    intro b o e
    refine hidT_get (KX b o e) ?_
    by_cases q : H b = none
    · exact q
    · obtain rfl := hA b q
      rw [hK q] at e
      cases e
  have modB : Mod K mg (hidT z.heap H) := by
    obtain ⟨mc, h1, h2⟩ := hlim
    exact ⟨inB, below hns, ⟨mb, below hb, hbb⟩, ⟨mc, below h1, h2⟩⟩
  have e0 : Env0 P w K mg (hidT z.heap H) callerA [] z H := ⟨rfl, modB, fun b o e => of_hidT e, Nat.le_of_eq (hidT_size _ _), trivial, (fun b hb => (by cases hb)), hok, .of_eq hg⟩
  refine codeAny_mono ((F _ inB (below hns)).go callerA [] z H ⟨[.ref a], []⟩ [.ref a] [.ref a] _ _ hr e0 (hbind z (.ref a)) (.cons rfl .nil) hsp) ?_
  rintro (e | fl) s2 out
  · obtain ⟨_, _, _, _, _, _, _, _, _, _, _, _, bad⟩ := out
    exact bad.elim
  · cases fl with
    | next => exact out.elim
    | brk => exact out.elim
    | cont => exact out.elim
    | ret u =>
      obtain ⟨v, H2, os, bare, un, ok2, rel, q⟩ := out
      obtain rfl : v = .bl true := q
      obtain rfl : u = Value.bool true := rel
      refine ⟨rfl, OldK.of_keep ?_, os, bare⟩
      intro b o e
      rcases hO b with q | ⟨ob, xs, q⟩
      · exact un.keep b o e q (by intro y; cases y) (by simp)
      · have q2 := un.frzs b ob _ q
        rw [(hok b _ q).1] at e
        cases e
        exact (ok2 b _ q2).1
/-- the law's def called with a script -/
theorem end_call (KX : K.In z.heap) (hns : z.heap.Ns mainGlobals mg) (hb : z.heap.Ns builtinsNs mb) (hbb : ∀ x : Str, x ≠ "__name__" → mb x = bootBuiltins x) (hlim : z.heap.NoLimit) (hg : z.gens = #[])
    (lay : z.heap.get? a = some { cls := .type "list", data := .seq vs.toArray }) (hi : IntsAre vs ns) (hl : ns.length ≤ sizeLine) (hr : RoomG k callerA)
    (F : ∀ base : Heap, K.In base → base.Ns mainGlobals mg → FnG P w K mg base k fa fd [x] sp) (hbind : ∀ (s : Shared) (u : Value), BindsTo s fd ⟨[u], []⟩ [(x, u)])
    (hsp : ∀ H : Hp, Only H → FzL K H a (ns.map V.int) → sp [.ref a] H (fun v _ => v = .bl true) fun _ _ _ => False) :
    codeAny (model P w) callerA (.call (.ref fa) ⟨[.ref a], []⟩) (fun r s' => r = .ok (.ret (.bool true)) ∧ OldK z.heap s'.heap ∧ s'.os = z.os ∧ AllBare s'.gens) z := by
  have rv := vals_ints hi
  have lenV := hi.length
  cases hk : K.lookup a with
  | some o =>
    have e := KX a o hk
    rw [lay] at e
    cases e
    have O0 : Only fun _ => none := fun b => .inl rfl
    refine end_run KX hns hb hbb hlim hg lay hr F hbind (hsp _ O0 (.inr ⟨_, vs.toArray, _, hk, rfl, rfl, rfl, by rw [List.size_toArray, lenV]; exact hl, by simpa using rv⟩)) O0 ?_ (fun b y => absurd rfl y) fun y => absurd rfl y
    intro b u y
    cases y
  | none =>
    have O1 : Only fun b => if b = a then some (.frz { cls := .type "list", data := .seq vs.toArray } (.lst (ns.map V.int))) else none := by
      intro b
      by_cases q : b = a
      · exact .inr ⟨_, _, if_pos q⟩
      · exact .inl (if_neg q)
    refine end_run KX hns hb hbb hlim hg lay hr F hbind (hsp _ O1 (.inl ⟨_, if_pos rfl⟩)) O1 ?_ ?_ fun _ => hk
    · intro b u y
      by_cases q : b = a
      · subst q
        have y : some (HO.frz { cls := .type "list", data := .seq vs.toArray } (.lst (ns.map V.int))) = some u := (if_pos rfl).symm.trans y
        cases y
        exact ⟨lay, by rw [List.length_map]; exact hl, vs, _, rv, lay⟩
      · cases (if_neg q).symm.trans y
    · intro b y
      by_cases q : b = a
      · exact q
      · exact absurd (if_neg q) y
end
/-- the goal that the head leaves -/
theorem walk_G {l : PySem.W.OpenLaw} {n k : Nat} {q : Program} {loose : List Str} {XP : (Str → Option Value) → Heap → Prop} {YP : World → Heap → Prop} {d : DefRec} {K : Params → PySem.W.Frag} {C : CF} {x : Str}
    (hn : l.most = some n) (hn2 : n ≤ sizeLine) (hdf : d.params.defaults = []) (hr : RoomG k callerA)
    (hY : ∀ (w : World) (h : Heap), YP w h → (K w.params).In h)
    (F : ∀ (w : World) (mg : Str → Option Value) (fa : Addr) (h : Heap), (K w.params).In h → h.Ns mainGlobals mg → mg d.name = some (.ref fa) →
      ∃ fd : FuncData, (∀ (s : Shared) (u : Value), BindsTo s fd ⟨[u], []⟩ [(x, u)]) ∧
        ∀ base : Heap, (K w.params).In base → base.Ns mainGlobals mg → FnG l.prog w (K w.params) mg base k fa fd [x] (spA (K w.params) 1 C))
    (law : ∀ ns : List Int, ns.length ≤ n → ∃ S, C [.scl (ns.map D.int)] [] = .ok (.bl true) S) :
    PySem.W.WalkO q loose XP YP l.row.toRowW d [] (fun f vs => PySem.call f vs) := by
  refine Att.attach_call hn hdf fun w s₀ s₁ mg mb fa o pm cd doc a vs ns G Y ho hd hcd hmg hobj hints hlen hg => ?_
  have KX := hY w _ Y
  obtain ⟨fd, hb, hF⟩ := F w mg fa _ KX G.T.g hmg
  refine end_call KX G.T.g G.T.b G.T.builtins G.T.nolimit hg hobj hints (Nat.le_trans hlen hn2) hr hF hb fun H hO hS => ?_
  obtain ⟨S, e⟩ := law ns hlen
  refine ⟨rfl, [], [], [.scl (ns.map D.int)], ⟨rfl, .nil, fun i o p e => (by cases e)⟩, .cons (rv_scl hS (.of_ints ns)) .nil, ?_⟩
  rw [e]
  exact fun φ' H' v _ _ rv => rv.bl_
end Al

set_option Elab.async false
set_option linter.all false
set_option maxRecDepth 100000
set_option maxHeartbeats 1000000
/-! Al: repr of data. -/
namespace Al
open PySem PySem.Spec PyProof.Rows L2
def shownD (p : PyData) : Option (List Nat) := if p.showable && decide (p.shown.length ≤ lim) && decide (p.depth ≤ 60) then some p.shown.cps.toList else none
def reprF : FN
  | [d], S => match toP 60 S d with
    | some p => (shownD p).map fun x => (.str x, S)
    | none => none
  | _, _ => none
theorem call_reprA {X : Cx} (hg : X.A.guards = some []) (hu : X.A.units + 64 < cLine) : CallA X (.builtin "repr") reprF := by
  intro pins s σ H xs us Q I rx h
  obtain ⟨φ, S, ds, d, S', rh, rd, e, k⟩ := h
  unfold reprF at e
  split at e
  · split at e
    · rename_i d0 _ p e1
      obtain ⟨x, e2, e3⟩ := mapOpt e
      cases e3
      unfold shownD at e2
      split at e2
      · rename_i hz
        cases e2
        simp only [Bool.and_eq_true, decide_eq_true_eq] at hz
        obtain ⟨v, rfl, rv⟩ := rvs1 rd
        obtain ⟨u, rfl, ru⟩ := vals1 rx
        obtain ⟨a1, a2, a3⟩ := toP_ok rh 60 d0 v p rv e1
        obtain ⟨as, r1⟩ := Dp.reads I p v u a1 ru
        have fin : Q (.str p.shown) H := by
          have q := k φ H (.str (toS p.shown.cps.toList)) .refl rh rv_str
          rwa [toS_eta] at q
        have hsz : p.shown.length ≤ sizeLine := by rw [lim_eq]; exact hz.1.2
        have nd : p.hasDict = false := PyData.hasDict_of_canLay p a2
        cases r1 with
        | none => exact PySem.P.repr_of_none ⟨.str _, H, I.tok _, ⟨_, rfl⟩, fin⟩
        | bool b => exact PySem.P.repr_of_bool ⟨.str _, H, I.tok _, ⟨_, rfl⟩, fin⟩
        | int i t => exact PySem.P.repr_of_int (by simpa [PyData.showable] using hz.1.1) ⟨.str _, H, I.tok _, ⟨_, rfl⟩, fin⟩
        | str y t => exact PySem.P.repr_of_str ⟨.str _, H, I.tok _, ⟨_, rfl⟩, fin⟩ (by simpa [PyData.shown] using hsz)
        | list h1 h2 h3 h4 => exact repr_of_reads' (.list h1 h2 h3 h4) hz.1.1 (PyData.noDict_hsm nd) hg (by omega) (fun _ _ e => e) (fun h' u tk hk => ⟨.str _, H, I.kept hk, ⟨_, rfl⟩, fin⟩) hsz
        | tuple h1 h2 h3 h4 => exact repr_of_reads' (.tuple h1 h2 h3 h4) hz.1.1 (PyData.noDict_hsm nd) hg (by omega) (fun _ _ e => e) (fun h' u tk hk => ⟨.str _, H, I.kept hk, ⟨_, rfl⟩, fin⟩) hsz
        | dict h1 h2 h3 h4 h5 => cases nd
      · cases e2
    · cases e
  · cases e
end Al

set_option Elab.async false
set_option linter.all false
set_option maxRecDepth 100000
set_option maxHeartbeats 4000000
/-! Al: sets of texts: set(xs), their size, sorted. -/
namespace Al
open PySem PySem.Spec PyProof.Rows L2
/-! ### a set of texts -/
def sKey (e : Int × Value) : Str := match e.2 with
  | .str x _ => x
  | _ => Str.empty
def sGood (w : World) (e : Int × Value) : Prop := ∃ x tk, e.2 = Value.str x tk ∧ e.1 = hashStr w x
/-- the texts at a: those of S, n of them; its table can be walked -/
def SetS (w : World) (h : Heap) (a : Addr) (S : Str → Bool) (n : Nat) : Prop :=
  ∃ o es ep t, h.get? a = some o ∧ o.ExactSet ∧ o.data = .set es ep t ∧ (∀ e ∈ es.toList, sGood w e) ∧ (es.toList.map sKey).Nodup ∧ (∀ k, S k = true ↔ k ∈ es.toList.map sKey) ∧
    es.size < scanBound ∧ t.fits es.size = true ∧ es.size = n ∧ Ris t.place.toList ∧ (w.params.followText "set-order" = true ∨ t.led = true)
section
variable {P : Program} {w : World} {h h' : Heap} {a : Addr} {S : Str → Bool} {n : Nat}
theorem SetS.at (R : SetS w h a S n) (k : ∀ o, h.get? a = some o → h'.get? a = some o) : SetS w h' a S n := let ⟨o, es, ep, t, ho, r⟩ := R; ⟨o, es, ep, t, k o ho, r⟩
theorem SetS.congr {S' : Str → Bool} (R : SetS w h a S n) (e : ∀ k, S' k = S k) : SetS w h a S' n := by rw [show S' = S from funext e]; exact R
theorem s_elems {l : List (Int × Value)} (g : ∀ e ∈ l, sGood w e) : ElemsOf (PySem.strKind P w) l := fun e he => by
  obtain ⟨k, tk, h1, h2⟩ := g e he
  exact ⟨⟨k, by rw [h1]; exact PySem.strKind_is P w k tk, h2⟩, by rw [h1] <;> rfl⟩
theorem s_is {e : Int × Value} (g : sGood w e) (k : Str) : (PySem.strKind P w).is k e.2 = true ↔ sKey e = k := by
  obtain ⟨k0, tk, h1, _⟩ := g
  have z := KeyKind.is_eq_decide (PySem.strKind_is P w k0 tk) k
  unfold sKey
  rw [h1, z, decide_eq_true_eq]
  exact eq_comm
theorem s_mem {l : List (Int × Value)} (g : ∀ e ∈ l, sGood w e) (k : Str) : k ∈ l.map sKey ↔ ∃ e ∈ l, (PySem.strKind P w).is k e.2 = true := by
  rw [List.mem_map]
  exact ⟨fun ⟨e, he, q⟩ => ⟨e, he, (s_is (g e he) k).2 q⟩, fun ⟨e, he, q⟩ => ⟨e, he, (s_is (g e he) k).1 q⟩⟩
theorem SetS.setOf (R : SetS w h a S n) : h.SetOf (PySem.strKind P w) a S n := by
  obtain ⟨o, es, ep, t, ho, hx, hd, g, nd, hm, hb, hf, hn, _⟩ := R
  exact ⟨o, es, ep, t, ho, hx, hd, s_elems g, fun k => (hm k).trans (s_mem g k), hb, hf, hn⟩
theorem SetS.fresh {xs : List Str} (ho : h.get? a = some { cls := .type "set", dict := none, data := .set #[] 0 (.fresh 0 0 (!w.params.followText "set-order")) }) : SetS w h a (fun j => decide (j ∈ xs.take 0)) 0 := by
  refine ⟨_, #[], 0, _, ho, ⟨rfl, rfl, rfl⟩, rfl, fun e he => ?_, by simp, fun k => by simp, by decide, by rfl, rfl, List.Pairwise.nil, ?_⟩
  · simp at he
  · show _ ∨ (!w.params.followText "set-order") = true
    cases w.params.followText "set-order"
    · exact .inr rfl
    · exact .inl rfl
end
section
variable {P : Program} {w : World} {A : Around} {E : Value → Shared → Prop} {s : Shared} {a : Addr} {S : Str → Bool} {n : Nat}
theorem s_tail {g : Bool → Sem Unit} (hg : ∀ (b : Bool) (s₁ : Shared) (Q' : Unit → Shared → Prop), Q' () s₁ → wpAny (model P w) A (g b) Q' E s₁)
    {o : Obj} {es : Array (Int × Value)} {ep : Nat} {t : SetTable} (ho : s.heap.get? a = some o) (hex : o.ExactSet) (hd : o.data = .set es ep t)
    {es1 : Array (Int × Value)} {t2 : SetTable} {S' : Str → Bool} (g1 : ∀ e ∈ es1.toList, sGood w e) (nd1 : (es1.toList.map sKey).Nodup) (m1 : ∀ k, S' k = true ↔ k ∈ es1.toList.map sKey)
    (hb1 : es1.size < scanBound) (hf2 : t2.fits es1.size = true) (hr : Ris t2.place.toList) (hl : w.params.followText "set-order" = true ∨ t2.led = true) {dum : Bool} {R : Option Bool → Shared → Prop}
    (hR : ∀ h', Heap.SameBut a s.heap h' → SetS w h' a S' es1.size → R (some true) { s with heap := h' }) :
    wpAny (model P w) A (do
        storeSet a es1 t2
        if (!dum && t2.tooFull) = true then do
            g (relayAll t2 es1 (SetTable.grown es1.size)).2.2
            storeSet a (relayAll t2 es1 (SetTable.grown es1.size)).1 (relayAll t2 es1 (SetTable.grown es1.size)).2.1
            pure (some true)
          else pure (some true)) R E s := by
  refine wpAny_bind (wpAny_storeSet_of ho hd ?_ (fits_of_scanBound hb1))
  have k1 := store_at (es' := es1) (t' := t2) ho hd
  have b1 := Heap.SameBut.update s.heap a (Obj.putSet es1 t2)
  split
  · obtain ⟨Z, eZ⟩ : ∃ Z, Z = relayAll t2 es1 (SetTable.grown es1.size) := ⟨_, rfl⟩
    have pm := relayAll_perm t2 es1 (SetTable.grown es1.size)
    have f3 := relayAll_fits t2 es1 (SetTable.grown es1.size)
    have r3 := relayAll_ris t2 es1 (SetTable.grown es1.size)
    have l3 := relayAll_led t2 es1 (SetTable.grown es1.size)
    rw [← eZ] at pm f3 r3 l3 ⊢
    clear eZ
    obtain ⟨es2, t3, gv⟩ := Z
    dsimp only at pm f3 r3 l3 ⊢
    have sz : es2.size = es1.size := by rw [← Array.length_toList, pm.length_eq, Array.length_toList]
    have b2 : es2.size < scanBound := sz ▸ hb1
    refine wpAny_bind (hg _ _ _ (wpAny_bind (wpAny_storeSet_of k1 rfl ?_ (fits_of_scanBound b2))))
    have k2 := store_at (es' := es2) (t' := t3) k1 rfl
    exact wpAny_pure (hR _ (b1.trans (Heap.SameBut.update _ a _)) ⟨_, es2, _, t3, k2, hex, rfl, fun e he => g1 e (pm.mem_iff.mp he), (pm.map sKey).nodup_iff.mpr nd1, fun k => (m1 k).trans (pm.map sKey).mem_iff.symm, b2, f3, sz, r3,
      hl.imp id fun z => l3.trans z⟩)
  · exact wpAny_pure (hR _ b1 ⟨_, es1, _, t2, k1, hex, rfl, g1, nd1, m1, hb1, hf2, rfl, hr, hl⟩)
/-- a text is added -/
theorem s_add {k : Str} {tk : Tok} {Q : Bool → Shared → Prop} (R : SetS w s.heap a S n) (room : n + 1 < scanBound)
    (hQ : ∀ h', Heap.SameBut a s.heap h' → SetS w h' a (fun j => S j || decide (j = k)) (if S k = true then n else n + 1) → Q (!S k) { s with heap := h' }) :
    wpAny (model P w) A (setAddHashed a (.str k tk) ((PySem.strKind P w).hash k)) Q E s := by
  obtain ⟨o, es, ep, t, ho, hex, hd, g, nd, hm, hb, hf, hn, hr, hl⟩ := R
  have sc : (Value.str k tk).scannable = true := rfl
  have el : ElemsOf (PySem.strKind P w) es.toList := s_elems g
  unfold setAddHashed setAddHashedIn
  refine wpAny_holding (wpAny_bind (wpAny_setState_of ho hd hf ?_))
  dsimp only
  rw [byScan_of sc hb el]
  simp only [↓reduceIte]
  unfold setAddByScan
  refine wpAny_bind (wpAny_bind (wpAny_rule (wpAny_bind (wpAny_setScan_of (PySem.strKind_is P w k tk) ho hd hf el ?_))))
  cases hfi : List.findIdx? (fun e => (PySem.strKind P w).is k e.2) es.toList with
  | some j =>
    dsimp only
    obtain ⟨hj, pj, _⟩ := List.findIdx?_eq_some_iff_getElem.mp hfi
    have yes : S k = true := (hm k).2 ((s_mem (P := P) g k).2 ⟨es.toList[j], List.getElem_mem hj, pj⟩)
    refine wpAny_pure (wpAny_pure ?_)
    have q := hQ s.heap (Heap.SameBut.refl a s.heap) ⟨o, es, ep, t, ho, hex, hd, g, nd, fun i => by
      rw [Bool.or_eq_true, decide_eq_true_eq, ← hm i]
      exact ⟨fun z => z.elim id (fun e => e ▸ yes), .inl⟩, hb, hf, by rw [if_pos yes]; exact hn, hr, hl⟩
    rwa [yes] at q
  | none =>
    dsimp only
    have out : k ∉ es.toList.map sKey := fun z => by
      obtain ⟨e, he, q⟩ := (s_mem (P := P) g k).1 z
      rw [List.findIdx?_eq_none_iff.mp hfi e he] at q
      cases q
    have no : S k = false := Bool.eq_false_iff.mpr fun q => out ((hm k).1 q)
    obtain ⟨Z, eZ⟩ : ∃ Z, Z = layNew t es ((PySem.strKind P w).hash k) (.str k tk) := ⟨_, rfl⟩
    have pm := layNew_perm t es ((PySem.strKind P w).hash k) (.str k tk)
    have f1 := layNew_fits t es ((PySem.strKind P w).hash k) (.str k tk)
    have r1 := layNew_ris t es ((PySem.strKind P w).hash k) (.str k tk) hr
    have l1 := layNew_led t es ((PySem.strKind P w).hash k) (.str k tk)
    rw [← eZ] at pm f1 r1 l1 ⊢
    clear eZ
    obtain ⟨es1, t1, dum, gv⟩ := Z
    dsimp only at pm f1 r1 l1 ⊢
    rw [Array.toList_push] at pm
    have pc : es1.toList.Perm (((PySem.strKind P w).hash k, Value.str k tk) :: es.toList) := pm.trans (List.perm_append_singleton _ _)
    have pk : (es1.toList.map sKey).Perm (k :: es.toList.map sKey) := pc.map sKey
    have g1 : ∀ e ∈ es1.toList, sGood w e := fun e he => by
      rcases List.mem_cons.mp (pc.mem_iff.mp he) with z | z
      · rw [z]; exact ⟨k, tk, rfl, rfl⟩
      · exact g e z
    have nd1 : (es1.toList.map sKey).Nodup := pk.nodup_iff.mpr (List.nodup_cons.mpr ⟨out, nd⟩)
    have m1 : ∀ i, (S i || decide (i = k)) = true ↔ i ∈ es1.toList.map sKey := fun i => by
      rw [Bool.or_eq_true, decide_eq_true_eq, hm i, pk.mem_iff, List.mem_cons]
      exact Or.comm
    have sz : es1.size = n + 1 := by rw [← Array.length_toList, pc.length_eq, List.length_cons, Array.length_toList, hn]
    have b1 : es1.size < scanBound := by rw [sz]; exact room
    have led : w.params.followText "set-order" = true ∨ t1.led = true := hl.imp id fun z => l1.trans z
    have fin : ∀ h', Heap.SameBut a s.heap h' → SetS w h' a (fun j => S j || decide (j = k)) es1.size → Q true { s with heap := h' } := fun h' sb r => by
      have q := hQ h' sb
      rw [no] at q
      rw [sz] at r
      exact q r
    have gw : ∀ (b : Bool) (s₁ : Shared) (Q' : Unit → Shared → Prop), Q' () s₁ → wpAny (model P w) A (match b with | true => rule "set.scan.the-table-gave-way" | false => pure ()) Q' E s₁ :=
      fun b s₁ Q' q => by cases b <;> first | exact wpAny_pure q | exact wpAny_rule q
    refine wpAny_bind (gw _ _ _ ?_)
    split
    · refine wpAny_bind ?_
      rw [hashByValue_scannable 8 sc]
      refine wpAny_pure ?_
      refine s_tail ?_ ho hex hd g1 nd1 m1 b1 ?_ ?_ ?_ ?_
      · intro b s₁ Q' q; cases b <;> first | exact wpAny_pure q | exact wpAny_rule q
      · first | (split <;> first | exact f1 | exact SetTable.fits_plain_off f1) | exact f1
      · first | (split <;> exact r1) | exact r1
      · first | (split <;> exact led) | exact led
      · intro h' sb r; dsimp only; exact wpAny_pure (fin h' sb r)
    · refine wpAny_bind (wpAny_pure ?_)
      simp only [↓reduceIte]
      refine s_tail ?_ ho hex hd g1 nd1 m1 b1 f1 r1 led ?_
      · intro b s₁ Q' q; cases b <;> first | exact wpAny_pure q | exact wpAny_rule q
      · intro h' sb r; dsimp only; exact wpAny_pure (fin h' sb r)
end
end Al

set_option Elab.async false
set_option linter.all false
set_option maxRecDepth 100000
set_option maxHeartbeats 4000000
/-! Al: set(xs) of a list or tuple of texts. -/
namespace Al
open PySem PySem.Spec PyProof.Rows L2
abbrev set0 (w : World) : Obj := { cls := .type "set", dict := none, data := .set #[] 0 (.fresh 0 0 (!w.params.followText "set-order")) }
section
variable {P : Program} {w : World} {A : Around} {E : Value → Shared → Prop} {s : Shared}
theorem s_loop {J : Addr} {fp wr : List Addr} {G : Array GenState → Array GenState → Prop} {n : Nat} {Pv : Nat → Value → Prop} {St : Nat → Shared → Prop} {R : Result → Shared → Prop}
    (W : WalksS P w A.in1 J fp wr G n Pv St) (b0 : Addr) (out : b0 ∉ fp) (xs : List Str) (hn : n = xs.length) (most : xs.length + 1 < scanBound) (vals : ∀ i v, Pv i v → ∃ k t, xs[i]? = some k ∧ v = .str k t) :
    ∀ (left i : Nat) (z : Shared), n - i = left → i ≤ n → St i z → (∃ c, c ≤ i ∧ SetS w z.heap b0 (fun j => decide (j ∈ xs.take i)) c) →
      (∀ z' c, Moved (b0 :: wr) G z z' → c ≤ n → SetS w z'.heap b0 (fun j => decide (j ∈ xs)) c → R (.ok (.ret .none)) z') →
      codeAny (model P w) A (.builtin "set.update.loop" ⟨[.ref b0, .ref J], []⟩) R z := by
  have nw : b0 ∉ wr := fun h => out (W.sub _ h)
  have wide : ∀ b ∈ wr, b ∈ b0 :: wr := fun b h => .tail _ h
  intro left
  induction left with
  | zero =>
    rintro i z el hi st ⟨c, hc, set⟩ fin
    obtain rfl : i = n := by omega
    refine codeAny_builtin F.entry_set_update_loop ?_
    rw [Around.under_plainId F.plain_set_update_loop _]
    refine wpAny_bind (W.done z _ _ st fun z1 mv => ?_)
    rw [List.take_of_length_le (by omega)] at set
    exact wpAny_pure (fin z1 c (mv.mono wide) hc (set.at fun o e => mv.heap b0 o nw e))
  | succ left ih =>
    rintro i z el hi st ⟨c, hc, set⟩ fin
    have lt : i < n := by omega
    refine codeAny_builtin F.entry_set_update_loop ?_
    rw [Around.under_plainId F.plain_set_update_loop _]
    refine wpAny_bind (W.item i z _ _ lt st fun v z1 pv st1 mv => ?_)
    obtain ⟨x, t, ex, rfl⟩ := vals i v pv
    have set1 : SetS w z1.heap b0 (fun j => decide (j ∈ xs.take i)) c := set.at fun o e => mv.heap b0 o nw e
    refine wpAny_bind (wpAny_holding ?_)
    unfold setAdd
    refine wpAny_holding (wpAny_bind ((PySem.strKind P w).pyHash (k := x) (PySem.strKind_is _ _ _ _) ?_))
    refine s_add (s := { z1 with toks := z1.toks + 1 }) set1 (by omega) fun h2 same set2 => ?_
    have set3 : SetS w h2 b0 (fun j => decide (j ∈ xs.take (i + 1))) (if decide (x ∈ xs.take i) = true then c else c + 1) := set2.congr fun j => by
      rw [List.take_add_one, ex]
      simp [List.mem_append]
    have hc3 : (if decide (x ∈ xs.take i) = true then c else c + 1) ≤ i + 1 := by split <;> omega
    have keep : ∀ b o, b ≠ b0 → z1.heap.get? b = some o → h2.get? b = some o := fun b o nb e => (same.2 b nb).trans e
    refine wpAny_pure ⟨plainId_quiet F.plain_set_update_loop _, ih (i + 1) _ (by omega) lt (W.frame _ z1 _ _ st1 (Nat.le_succ _) fun b hb o e => keep b o (fun q => out (q ▸ hb)) e) ⟨_, hc3, set3⟩ fun z3 c3 mv3 le3 fs => ?_⟩
    exact fin z3 c3 (Moved.trans W.gtrans ((mv.mono wide).then_heap (Nat.le_succ _) fun b o hb e => keep b o (fun q => hb (q ▸ .head _)) e) mv3) le3 fs

def KeepAll (h h' : Heap) : Prop := ∀ b o, h.get? b = some o → h'.get? b = some o
/-- set(l) of a list of texts -/
theorem s_list {l : Addr} {items : Array Value} (xs : List Str) {Q : Value → Shared → Prop} (calm : A.handled = none) (hl : s.heap.IsList l items) (cnt : items.size = xs.length)
    (vals : ∀ (i : Nat) (v : Value), items[i]? = some v → ∃ k t, xs[i]? = some k ∧ v = .str k t) (most : xs.length + 1 < scanBound)
    (fin : ∀ (h2 : Heap) (tk c : Nat), SetS w h2 s.heap.objs.size (fun j => decide (j ∈ xs)) c → c ≤ xs.length → KeepAll s.heap h2 → Q (.ref s.heap.objs.size) { s with heap := h2, toks := tk }) :
    wpAny (model P w) A (call (.type "set") [.ref l]) Q E s := by
  obtain ⟨c, tl, hmro⟩ := F.called_set.mro
  have hmade := F.called_set.made
  have hsub := F.called_set.sub
  refine wpAny_call (codeAny_of_tree ?_)
  refine wpAny_pure ⟨Code.quiet_builtin _ (by decide +kernel), codeAny_builtin F.entry_type_call ?_⟩
  rw [Around.under_plain (weight_type_call_type "set" [.ref l] []) rfl]
  have h1 := F.called_set.notType
  have h2 := F.called_set.canCreate
  have hct := F.typeCall_set_1 (.ref l)
  repeat' (first | assumption | wp_step)
  refine codeAny_mono (L2.code_set_led1 (w := w) (.ref l) (E := E) (Q₁ := fun v z => v = .ref s.heap.objs.size ∧ z = { s with heap := s.heap.push (set0 w) }) ⟨rfl, rfl⟩) ?_
  rintro (er | fl) z1 got
  · exact got
  cases fl with
  | ret v =>
    obtain ⟨rfl, rfl⟩ := got
    have at0 : (s.heap.push (set0 w)).get? s.heap.objs.size = some (set0 w) := Heap.get?_push_size _ rfl
    have hT : Shared.TypeIs { s with heap := s.heap.push (set0 w) } (.ref s.heap.objs.size) "set" := ⟨_, at0, rfl⟩
    have hli := F.called_set.init.lookup
    have hbi := F.called_set.init.bind (.ref s.heap.objs.size)
    repeat' (first | assumption | wp_step)
    refine codeAny_mono (codeAny_call_builtin (R := wants (fun r z => r = .none ∧ ∃ h2 tk c, z = { s with heap := h2, toks := tk } ∧ SetS w h2 s.heap.objs.size (fun j => decide (j ∈ xs)) c ∧ c ≤ xs.length ∧ KeepAll s.heap h2) E) F.called_set.init.plain F.entry_set_init (check_set_init_1 hT ?_)) ?_
    · obtain ⟨⟨oc, od, data, sl⟩, ol, hc, nl, hd⟩ := hl
      simp only at hc hd
      subst hc hd
      have ol1 : (s.heap.push (set0 w)).get? l = some ⟨.type "list", od, .seq items nl, sl⟩ := Heap.get?_push_of_some _ ol
      have hsls := F.sub_list_set
      have hslf := F.sub_list_frozenset
      have hne : (Value.type "list" == Value.type "dict") = false := by decide
      have isL : (s.heap.push (set0 w)).IsList l items := ⟨_, ol1, rfl, nl, rfl⟩
      unfold Builtin.«set.__init__» noKeywords Builtin.Frozenset.updateFrom
      generalize hold : pyIter = it
      wp_walk
      subst hold
      refine wpAny_pyIter_list isL (wpAny_bind (wpAny_runValue ?_))
      have lS : l < s.heap.objs.size := Heap.lt_size ol
      have sz : (s.heap.push (set0 w)).objs.size = s.heap.objs.size + 1 := Heap.size_push ..
      have c3 : A.in1.in1.in1.handled = none := calm
      refine s_loop ((Walks.list c3 _ l (by rw [sz]; exact Nat.ne_of_lt (Nat.lt_succ_of_lt lS)) items).toS) s.heap.objs.size ?_ xs cnt most vals (items.size - 0) 0 _ rfl (Nat.zero_le _) ⟨⟨_, Heap.get?_push_size _ rfl, rfl, rfl⟩, isL.push _⟩ ⟨0, Nat.le_refl 0, SetS.fresh (Heap.get?_push_of_some _ at0)⟩ ?_
      · rw [sz]
        intro q
        rcases List.mem_cons.mp q with q | q
        · exact absurd q (Nat.ne_of_lt (Nat.lt_succ_self _))
        · exact absurd (List.mem_singleton.mp q) (Nat.ne_of_gt lS)
      · rintro ⟨h2, g2, d2, tk2, os2⟩ c2 mv le set
        obtain rfl : g2 = s.gens := mv.gens
        obtain rfl : d2 = s.drawn := mv.drawn
        obtain rfl : os2 = s.os := mv.os
        refine wpAny_pure (wpAny_pure ⟨rfl, h2, tk2, c2, rfl, set, by rw [← cnt]; exact le, fun b o e => ?_⟩)
        have lb : b < s.heap.objs.size := Heap.lt_size e
        refine mv.heap b o (fun q => ?_) (Heap.get?_push_of_some _ (Heap.get?_push_of_some _ e))
        rcases List.mem_cons.mp q with q | q
        · exact absurd q (Nat.ne_of_lt lb)
        · rw [sz] at q
          exact absurd (List.mem_singleton.mp q) (Nat.ne_of_lt (Nat.lt_succ_of_lt lb))
    · rintro (er | fl) z2 got2
      · exact got2
      cases fl with
      | ret v =>
        obtain ⟨rfl, h2, tk, c2, rfl, set, le, keep⟩ := got2
        repeat' (first | assumption | wp_step)
        exact fin _ _ _ set le keep
      | _ => exact got2.elim
  | _ => exact got.elim
end
end Al

set_option Elab.async false
set_option linter.all false
set_option maxRecDepth 100000
set_option maxHeartbeats 4000000
/-! Al: sorted(texts), sorted(set(texts)). -/
namespace Al
open PySem PySem.Spec PyProof.Rows L2
/-! ### plain sorting of texts -/
def leT (a b : List Nat) : Bool := !ltCps b a
def insT (x : List Nat) : List (List Nat) → List (List Nat)
  | [] => [x]
  | y :: r => if leT x y then x :: y :: r else y :: insT x r
def sortT : List (List Nat) → List (List Nat)
  | [] => []
  | x :: r => insT x (sortT r)
def dedT : List (List Nat) → List (List Nat)
  | [] => []
  | x :: r => if r.contains x then dedT r else x :: dedT r
theorem leT_iff (a b : List Nat) : leT a b = true ↔ a ≤ b := by
  unfold leT
  rw [ltCps_eq, Bool.not_eq_true', decide_eq_false_iff_not, List.not_lt]
theorem leT_total (a b : List Nat) : leT a b = true ∨ leT b a = true := by
  rw [leT_iff, leT_iff]; exact List.le_total a b
theorem leT_trans {a b c : List Nat} (h : leT a b = true) (i : leT b c = true) : leT a c = true := by
  rw [leT_iff] at *; exact List.le_trans h i
theorem leT_anti {a b : List Nat} (h : leT a b = true) (i : leT b a = true) : a = b := by
  rw [leT_iff] at *; exact List.le_antisymm h i
theorem insT_perm (x : List Nat) : ∀ l, (insT x l).Perm (x :: l)
  | [] => .refl _
  | y :: r => by
    unfold insT
    split
    · exact .refl _
    · exact ((insT_perm x r).cons y).trans (.swap x y r)
theorem sortT_perm : ∀ l, (sortT l).Perm l
  | [] => .refl _
  | x :: r => (insT_perm x _).trans ((sortT_perm r).cons x)
theorem insT_sorted (x : List Nat) : ∀ l : List (List Nat), l.Pairwise (fun a b => leT a b = true) → (insT x l).Pairwise (fun a b => leT a b = true)
  | [], _ => by simp [insT]
  | y :: r, h => by
    obtain ⟨h1, h2⟩ := List.pairwise_cons.mp h
    unfold insT
    split
    · rename_i q
      refine List.pairwise_cons.mpr ⟨fun z hz => ?_, h⟩
      rcases List.mem_cons.mp hz with e | e
      · rw [e]; exact q
      · exact leT_trans q (h1 z e)
    · rename_i q
      have q' : leT y x = true := (leT_total x y).resolve_left q
      refine List.pairwise_cons.mpr ⟨fun z hz => ?_, insT_sorted x r h2⟩
      rcases List.mem_cons.mp ((insT_perm x r).mem_iff.mp hz) with e | e
      · rw [e]; exact q'
      · exact h1 z e
theorem sortT_sorted : ∀ l, (sortT l).Pairwise (fun a b => leT a b = true)
  | [] => .nil
  | x :: r => insT_sorted x _ (sortT_sorted r)
theorem sortT_unique {l m : List (List Nat)} (p : m.Perm l) (s : m.Pairwise (fun a b => leT a b = true)) : m = sortT l :=
  List.Perm.eq_of_pairwise (le := fun a b => leT a b = true) (fun a b _ _ h i => leT_anti h i) s (sortT_sorted l) (p.trans (sortT_perm l).symm)
theorem dedT_mem (k : List Nat) : ∀ l : List (List Nat), k ∈ dedT l ↔ k ∈ l
  | [] => .rfl
  | x :: r => by
    have ih := dedT_mem k r
    unfold dedT
    split
    · rename_i q
      rw [ih, List.mem_cons]
      refine ⟨.inr, fun h => h.elim (fun e => ?_) id⟩
      rw [e]; simpa using q
    · rw [List.mem_cons, List.mem_cons, ih]
theorem dedT_nodup : ∀ l : List (List Nat), (dedT l).Nodup
  | [] => .nil
  | x :: r => by
    have ih := dedT_nodup r
    unfold dedT
    split
    · exact ih
    · rename_i q
      refine List.nodup_cons.mpr ⟨fun h => q ?_, ih⟩
      simpa using (dedT_mem x r).1 h
theorem rising_iff : ∀ (l : List Str) (p : Str), risingS p l = true → (∀ x ∈ l, leT p.cps.toList x.cps.toList = true) ∧ l.Pairwise (fun a b => leT a.cps.toList b.cps.toList = true)
  | [], p, _ => ⟨fun _ h => (nomatch h), List.Pairwise.nil⟩
  | x :: r, p, h => by
    have h : (!ltCps x.cps.toList p.cps.toList && risingS x r) = true := h
    rw [Bool.and_eq_true] at h
    obtain ⟨a, b⟩ := rising_iff r x h.2
    have hp : leT p.cps.toList x.cps.toList = true := h.1
    refine ⟨fun y hy => ?_, List.pairwise_cons.mpr ⟨a, b⟩⟩
    rcases List.mem_cons.mp hy with e | e
    · rw [e]; exact hp
    · exact leT_trans hp (a y e)
theorem sorted_pw {l : List Str} (h : sortedS l = true) : (l.map fun x => x.cps.toList).Pairwise (fun a b => leT a b = true) := by
  rw [List.pairwise_map]
  cases l with
  | nil => exact .nil
  | cons x r =>
    obtain ⟨a, b⟩ := rising_iff r x h
    exact List.pairwise_cons.mpr ⟨a, b⟩
theorem map_eta (l : List Str) : (l.map fun x => x.cps.toList).map toS = l := by
  rw [List.map_map]
  conv => rhs; rw [← List.map_id l]
  exact List.map_congr_left fun x _ => toS_eta x
theorem eta_map (l : List (List Nat)) : (l.map toS).map (fun x => x.cps.toList) = l := by
  rw [List.map_map]
  conv => rhs; rw [← List.map_id l]
  exact List.map_congr_left fun x _ => by simp [toS]
theorem sortT_is {l : List (List Nat)} {ys : List Str} (p : ys.Perm (l.map toS)) (s : sortedS ys = true) : ys = (sortT l).map toS := by
  have q : (ys.map fun x => x.cps.toList) = sortT l := sortT_unique (by have := p.map (fun x => x.cps.toList); rwa [eta_map] at this) (sorted_pw s)
  rw [← q, map_eta]
/-! ### sorted(list of texts) -/
def strsOf (d : D) (S : Store) : Option (List (List Nat)) := match d with
  | .ref n => (lstAt S n).bind (mapO asStr)
  | _ => none
def sortedF : FN
  | [d], S => (strsOf d S).bind fun l => if l.length < lim then some (.ref S.length, S ++ [.lst ((sortT l).map .str)]) else none
  | _, _ => none
section
variable {X : Cx} {W : WX}
theorem strsOf_ok {K : PySem.W.Frag} {φ : List Addr} {H : Hp} {S : Store} {d : D} {v : V} {l : List (List Nat)} (rh : RH K φ H S) (r : RV K φ H d v) (e : strsOf d S = some l) : ∃ p, v = .ref p ∧ SqL K H p ((l.map toS).map V.str) := by
  unfold strsOf at e
  split at e
  · obtain ⟨ds, e1, e2⟩ := bindO e
    obtain ⟨p, vs, rfl, sq, rs⟩ := lstAt_ok rh e1 r
    rw [asStr_all rs e2] at sq
    exact ⟨p, rfl, sq⟩
  · cases e
theorem call_sortedA : CallA X (.builtin "sorted") sortedF := by
  intro pins s σ H xs us Q I r h
  obtain ⟨φ, S, ds, d, S', rh, rv, e, k⟩ := h
  unfold sortedF at e
  split at e
  · obtain ⟨l, e1, e2⟩ := bindO e
    split at e2
    · rename_i small
      cases e2
      obtain ⟨v, rfl, rz⟩ := rvs1 rv
      obtain ⟨p, rfl, sq⟩ := strsOf_ok rh rz e1
      obtain ⟨its, rvs, pl, _⟩ := I.list sq
      rw [Vals.ref1 r]
      have cnt := rvs.length
      rw [List.length_map, List.length_map] at cnt
      refine sorted_strsAny pl.isList rvs.strs (by rw [← cnt, lim_eq]; omega) fun out ys h1 h2 h3 => ?_
      obtain ⟨ep, lay⟩ := sortedAll_at s.heap its out
      obtain rfl := sortT_is h2 h3
      have len : (((sortT l).map toS).map V.str).length ≤ sizeLine := by rw [List.length_map, h2.length_eq, List.length_map, lim_eq]; omega
      exact ⟨.ref _, upd H (s.heap.objs.size + 1) (.lst (((sortT l).map toS).map V.str)), I.laid (t' := s.toks) (fun _ _ => sortedAll_old) (Nat.le_succ _) ⟨len, out.toList, ep, vals_of_strs h1, lay⟩, rfl,
        new_list rh (.of_strs _) k _ (I.hok.fresh (Nat.le_succ _))⟩
    · cases e2
  · cases e
/-! ### sorted(set(list of texts)) -/
abbrev SetH (w : World) (a : Addr) (xs : List Str) (n : Nat) : HO := .ext fun h => SetS w h a (fun j => decide (j ∈ xs)) n
theorem setH_get {pins : List (Addr × Obj)} {σ : St} {H : Hp} {s : Shared} {a : Addr} {xs : List Str} {n : Nat} (I : Inv X pins σ H s) (h : H a = some (SetH X.w a xs n)) : SetS X.w s.heap a (fun j => decide (j ∈ xs)) n := (I.hok a _ h).1
theorem cr_setS (hc : X.calm = true) : CallR X (.type "set") (fun vs H Q => ∃ (p : Addr) (xs : List Str), vs = [.ref p] ∧ SqL X.K H p (xs.map V.str) ∧ xs.length < 4000 ∧ ∀ a n, H a = none → n ≤ xs.length → Q (.ref a) (upd H a (SetH X.w a xs n))) := by
  intro pins s σ H vs us Q I r h
  obtain ⟨p, xs, rfl, sq, few, q⟩ := h
  obtain ⟨its, rvs, pl, _⟩ := I.list sq
  rw [Vals.ref1 r]
  have cnt := rvs.length
  rw [List.length_map] at cnt
  refine s_list xs (I.ok.hd hc) pl.isList (by rw [List.size_toArray]; exact cnt.symm) (fun i v e => ?_) (by unfold scanBound; omega) fun h2 tk c set le keep => ?_
  · have e2 : its[i]? = some v := by simpa using e
    have hi : i < xs.length := by rw [cnt]; exact (List.getElem?_eq_some_iff.mp e2).1
    obtain ⟨u, e3, rel⟩ := rvs.get (i := i) (x := .str xs[i]) (by rw [List.getElem?_map, List.getElem?_eq_getElem hi]; rfl)
    rw [e2] at e3
    cases e3
    obtain ⟨t, rfl⟩ := rel
    exact ⟨xs[i], t, List.getElem?_eq_getElem hi, rfl⟩
  · have fresh : H s.heap.objs.size = none := I.hok.fresh (Nat.le_refl _)
    refine ⟨.ref _, upd H s.heap.objs.size (SetH X.w s.heap.objs.size xs c), I.laid keep (Nat.le_refl _) ⟨set, ?_, fun h1 h2 a b => a.at b⟩, rfl, q _ c fresh le⟩
    obtain ⟨o, _, _, _, e, _⟩ := set
    exact ⟨o, e⟩
theorem cr_sortS (hc : X.calm = true) : CallR X (.builtin "sorted") (fun vs H Q => ∃ (a : Addr) (xs : List (List Nat)) (n : Nat), vs = [.ref a] ∧ H a = some (SetH X.w a (xs.map toS) n) ∧ n < 4000 ∧ ∀ p, H p = none → Q (.ref p) (upd H p (.lst (((sortT (dedT xs)).map toS).map V.str)))) := by
  intro pins s σ H vs us Q I r h
  obtain ⟨a, xs, n, rfl, ha, few, q⟩ := h
  have R := setH_get I ha
  rw [Vals.ref1 r]
  obtain ⟨o, es, ep, t, ho, hex, hd, g, nd, hm, hb, hf, hn, hr, hl⟩ := R
  refine Calls.call_function_entry kind_sorted plain_sorted entry_sorted (args_sorted1 _) ?_
  unfold Builtin.«sorted»
  refine wpAny_bind (m := checkCount "sorted" 1 1 _) (wpAny_pure ?_)
  refine wpAny_bind (collect_set (A := X.A.in1) (I.ok.hd hc) ⟨o, ho, hex.1, hd⟩ hf hb hr hl fun z1 out keep hz g1 o1 pm => ?_)
  have cnt : out.length = n := by rw [pm.length_eq, List.length_map, Array.length_toList]; exact hn
  have ssx : StrsAre out (out.map strOf) := strsAre_map out fun v hv => by
    obtain ⟨e, he, rfl⟩ := List.mem_map.mp (pm.mem_iff.mp hv)
    obtain ⟨k, tk, h1, _⟩ := g e he
    exact ⟨k, tk, h1⟩
  have pk : (out.map strOf).Perm (es.toList.map sKey) := by
    have z := pm.map strOf
    rw [List.map_map] at z
    refine z.trans (.of_eq (List.map_congr_left fun e he => ?_))
    obtain ⟨k, tk, h1, _⟩ := g e he
    show strOf e.2 = sKey e
    unfold sKey
    rw [h1] <;> rfl
  have pd : (es.toList.map sKey).Perm ((dedT xs).map toS) := by
    refine (List.perm_ext_iff_of_nodup nd ?_).2 fun k => ?_
    · exact List.Pairwise.map toS (fun x y ne e => ne (toS_inj e)) (dedT_nodup xs)
    · rw [← hm k, decide_eq_true_eq, List.mem_map, List.mem_map]
      exact ⟨fun ⟨x, h1, h2⟩ => ⟨x, (dedT_mem x xs).2 h1, h2⟩, fun ⟨x, h1, h2⟩ => ⟨x, (dedT_mem x xs).1 h1, h2⟩⟩
  refine wpAny_bind (wpAny_newList ?_ (by rw [cnt, sizeLine_eq]; omega))
  have lay0 : (z1.heap.push (seqObj "list" out.toArray 0)).get? z1.heap.objs.size = some (seqObj "list" out.toArray 0) := Heap.get?_push_size _ rfl
  refine wpAny_bind (wpAny_holding (wpAny_call_entry slot_list_sort ⟨_, lay0, rfl⟩ entry_list_sort (list_sort_treeKAny strKind_oneLt lay0 ssx.keysOf (fun v₁ v₂ rest e => keyKind_strs (by rw [← e]; exact ssx)) (by rw [cnt, sizeLine_eq]; omega) fun st' hp hs => ⟨_, rfl, ?_⟩) (args_list_sort _)))
  obtain ⟨ys, a1, a2, a3⟩ := sorted_out_str ssx hp hs
  obtain rfl := sortT_is (a2.trans (pk.trans pd)) a3
  obtain ⟨c, lay⟩ := sortedHeap_at (vs := out) (out := (arrOf st').map (·.2)) lay0
  have old : KeepAll s.heap (sortedHeap (z1.heap.push (seqObj "list" out.toArray 0)) z1.heap.objs.size out ((arrOf st').map (·.2))) := fun b u e => by
    have e1 := keep b u e
    have lt := Heap.lt_size e1
    rw [sortedHeap_old (Nat.ne_of_lt lt) (by rw [size_push']; exact Nat.lt_succ_of_lt lt)]
    exact Heap.get?_push_of_some _ e1
  have fresh : H z1.heap.objs.size = none := I.hok.fresh hz
  have len : (((sortT (dedT xs)).map toS).map V.str).length ≤ sizeLine := by
    rw [List.length_map, (a2.trans pk).length_eq, List.length_map, Array.length_toList, hn, sizeLine_eq]; omega
  refine wpAny_pure ⟨_, rfl, .ref z1.heap.objs.size, upd H z1.heap.objs.size (.lst (((sortT (dedT xs)).map toS).map V.str)), ?_, rfl, q _ fresh⟩
  exact I.call' (ch := []) o1 (Un.laid old hz fresh) (I.hok.laid old hz ⟨len, _, c, vals_of_strs a1, lay⟩) (by show AllBare z1.gens; rw [g1]; exact I.bare) (fun _ y => nomatch y)
def eSortSet (a : EF) : EF := fun ρ S => (a ρ S).bind fun x S1 => match strsOf x S1 with
  | some l => if l.length < 4000 then .ok (.ref S1.length) (S1 ++ [.lst ((sortT (dedT l)).map .str)]) else .stuck
  | none => .stuck
theorem ae_sortSet {e : Expr} {Fa : EF} {p pos p2 pos2 : Pos} (hc : X.calm = true) (hm : X.mg "sorted" = none) (hm2 : X.mg "set" = none) (ha : AE X W e Fa) (hb : bootBuiltins "sorted" = some (.builtin "sorted")) (hb2 : bootBuiltins "set" = some (.type "set"))
    (hg : Gl X "sorted" := by rfl) (hg2 : Gl X "set" := by rfl) (hs : starEach [e] X.env = (false, eval e X.env) :: starEach [] X.env := by rfl) :
    AE X W (.Call (.Name "sorted" p) [.Call (.Name "set" p2) [e] [] pos2] [] pos) (eSortSet Fa) := by
  refine pe_mono (pe_callB (cr_sortS hc) hg hm hb (pa_cons (pe_callTy (cr_setS hc) hg2 hm2 hb2 (pa_cons ha pa_nil hs) (by decide) (by decide) hs (by rfl)) pa_nil (by rfl))) fun σ H Q ⟨φ, ρ, S, rh, rl, f⟩ => ?_
  refine ⟨φ, ρ, S, rh, rl, (Fin.bind f).imp ?_⟩
  rintro v H1 ⟨φ1, S1, d, e1, rh1, rv1, f1⟩
  split at f1
  · rename_i l el
    split at f1
    · rename_i few
      obtain ⟨q, rfl, sq⟩ := strsOf_ok rh1 rv1 el
      refine ⟨q, _, rfl, sq, by rw [List.length_map]; exact few, fun a n free le => ?_⟩
      refine ⟨a, l, n, rfl, upd_same, by rw [List.length_map] at le; omega, fun b freeb => ?_⟩
      have x1 := Ext.new (K := X.K) (φ := φ1) (o := SetH X.w a (l.map toS) n) free
      exact new_list (rh1.new free) (.of_strs _) (fun φ' H' v x rh rv => f1 φ' H' v (x1.trans x) rh rv) b freeb
    · exact f1.elim
  · exact f1.elim
end
end Al

set_option Elab.async false
set_option linter.all false
set_option maxRecDepth 100000
set_option maxHeartbeats 1000000
/-! Al: str.split. -/
namespace Al
open PySem PySem.Spec PyProof.Rows L2
def splitT (x : List Nat) (c : Nat) : List (List Nat) := (Txt.split (toS x) (toS [c])).map fun y => y.cps.toList
def splitM : FM
  | .str x, [.str [c]], S => if x.length + 2 ≤ lim then some (.ref S.length, S ++ [.lst ((splitT x c).map .str)]) else none
  | _, _, _ => none
theorem mt_splitA {X : Cx} : MtA X "str.split" splitM := by
  intro pins s σ H x xs v us Q I rx rs h
  obtain ⟨φ, S, a, ds, d, S', rh, ra, rd, e, k⟩ := h
  unfold splitM at e
  split at e
  · rename_i y c
    split at e
    · rename_i few
      cases e
      obtain ⟨z, rfl, rz⟩ := rvs1 rd
      refine L2.mt_split pins s σ H x _ v us Q I rx rs ⟨toS y, toS [c], ra.str_, by rw [rz.str_], rfl, by rw [toS_len, lim_eq]; exact few, fun p free => ?_⟩
      have q := new_list rh (.of_strs (splitT y c)) k p free
      unfold splitT at q
      rwa [map_eta] at q
    · cases e
  · cases e
/-- what is joined, then split -/
theorem splitT_join {c : Nat} (hc : c < 256) {l : List (List Nat)} (hne : l ≠ []) (h : ∀ p ∈ l, c ∉ p) : splitT (joinL [c] l) c = l := by
  unfold splitT
  have e : toS (joinL [c] l) = Txt.join (toS [c]) (l.map toS) := by rw [TL.join_eq, joinL_eq]
  rw [e, TL.split_join (y := toS [c]) (s := c) (S := []) rfl (by simp [toS, hc]) (by simpa using hne), eta_map]
  intro p hp
  obtain ⟨x, hx, rfl⟩ := List.mem_map.mp hp
  exact h x hx
end Al

set_option Elab.async false
set_option linter.all false
set_option maxRecDepth 100000
set_option maxHeartbeats 1000000
/-! Al: what a program's defs are, in short. -/
namespace Al
open PySem PySem.Spec PyProof.Rows L2
theorem RoomG.mono {j k : Nat} {A : Around} (r : RoomG k A) (h : j ≤ k) : RoomG j A := ⟨r.rm.mono h, r.gd⟩
theorem FnG.mono {P : Program} {w : World} {K : PySem.W.Frag} {mg : Str → Option Value} {base : Heap} {j k : Nat} {f : Addr} {fd : FuncData} {ps : List Str} {sp : Sp} (F : FnG P w K mg base j f fd ps sp) (h : j ≤ k) : FnG P w K mg base k f fd ps sp :=
  ⟨F.cnt, fun A rest z H ar us vs Q E r => F.go A rest z H ar us vs Q E (r.mono h)⟩
/-- a def of the text -/
def Df (K : PySem.W.Frag) (mg : Str → Option Value) (x : Str) (st : Stmt) (ps : List Str) : Prop := ∃ f fd, Fun K x x st f fd ∧ mg x = some (.ref f) ∧ ∀ us : List Value, us.length = ps.length → bindArgs fd ⟨us, []⟩ = pure (ps.zip us)
/-- a def that computes C, with room k -/
def OkF (P : Program) (w : World) (K : PySem.W.Frag) (mg : Str → Option Value) (base : Heap) (k : Nat) (x : Str) (ps : List Str) (C : CF) : Prop :=
  ∃ f fd, FnG P w K mg base k f fd ps (spA K ps.length C) ∧ mg x = some (.ref f) ∧ PySem.W.keepIn K (.ref f) = true ∧ Binds K fd ps [] ∧ ∃ oc od osl, K.lookup f = some ⟨oc, od, .func fd, osl⟩
theorem OkF.mono {P : Program} {w : World} {K : PySem.W.Frag} {mg : Str → Option Value} {base : Heap} {j k : Nat} {x : Str} {ps : List Str} {C : CF} (F : OkF P w K mg base j x ps C) (h : j ≤ k) : OkF P w K mg base k x ps C := by
  obtain ⟨f, fd, a, b⟩ := F
  exact ⟨f, fd, a.mono h, b⟩
/-- a constant of the module; a name that the module has not -/
def Cn (K : PySem.W.Frag) (mg : Str → Option Value) (x : Str) (d : D) : Prop := ∃ u v, mg x = some u ∧ RelV v u ∧ ∀ φ H, RV K φ H d v
section
variable {P : Program} {w : World} {K : PySem.W.Frag} {mg : Str → Option Value} {base : Heap} {k : Nat} {x : Str} {st : Stmt} {ps N : List Str}
theorem ok_def {B : SF} (D : Df K mg x st ps) (S : FnScope N ps (defScope st))
    (hb : ∀ (f : Addr) (cdv : Value) (A : Around) (outer : List PySem.Env) (s : Shared) (H : Hp) (E : XK), RoomG k (cxA P w K mg base N x st f cdv A outer s H E).A → Psd (cxA P w K mg base N x st f cdv A outer s H E) (wA E) →
      PassesOwn (model P w) (cxA P w K mg base N x st f cdv A outer s H E).A (cxA P w K mg base N x st f cdv A outer s H E).env (cxA P w K mg base N x st f cdv A outer s H E).xe → ASs (cxA P w K mg base N x st f cdv A outer s H E) (wA E) (defBody st) B) :
    OkF P w K mg base (k + 1) x ps (bodyF N.length B) := by
  obtain ⟨f, fd, F, g, b⟩ := D
  obtain ⟨oc, od, kV, doc, pm, an, cdv, ct, osl, e, lk, hcd⟩ := id F.ex
  exact ⟨f, fd, fn_okG F S fun cdv A outer s H E hr => hb f cdv A outer s H E hr (psd_of (takes_of rfl rfl rfl rfl)) (passes_of rfl), g, F.kp, .all b, oc, od, osl, lk⟩
theorem ok_zero (D : Df K mg x st ps) : OkF P w K mg base k x ps fun _ _ => .stuck := by
  obtain ⟨f, fd, F, g, b⟩ := D
  obtain ⟨oc, od, kV, doc, pm, an, cdv, ct, osl, e, lk, hcd⟩ := id F.ex
  exact ⟨f, fd, FnG.zero, g, F.kp, .all b, oc, od, osl, lk⟩
/-- the law's own def -/
theorem ok_end {fa : Addr} {y : Str} {C : CF} (D : Df K mg x st [y]) (hfa : mg x = some (.ref fa)) (ok : ∀ base : Heap, OkF P w K mg base k x [y] C) :
    ∃ fd : FuncData, (∀ (s : Shared) (u : Value), BindsTo s fd ⟨[u], []⟩ [(y, u)]) ∧ ∀ base : Heap, K.In base → base.Ns mainGlobals mg → FnG P w K mg base k fa fd [y] (spA K 1 C) := by
  obtain ⟨f, fd, F, g, b⟩ := D
  obtain ⟨oc, od, kV, doc, pm, an, cdv, ct, osl, e, lk, hcd⟩ := id F.ex
  rw [g] at hfa
  cases hfa
  refine ⟨fd, fun s u => .of_eq (b [u] rfl), fun base _ _ => ?_⟩
  obtain ⟨f2, fd2, G2, g2, _, _, oc2, od2, osl2, lk2⟩ := ok base
  rw [g] at g2
  cases g2
  rw [lk] at lk2
  cases lk2
  exact G2
end
section
variable {X : Cx} {W : WX} {x : Str} {pos : Pos}
theorem ae_cst {d : D} (h : Cn X.K X.mg x d) (hg : Gl X x := by rfl) (hd : (x == ("__debug__" : Str)) = false := by decide) : AE X W (.Name x pos) (eC d) := by
  obtain ⟨u, v, a, b, c⟩ := h
  exact ae_glob d a b c hg hd
variable {k : Nat} {C : CF} {p : Pos} {e : Expr} {es : List Expr} {Fr : AF}
theorem ae_callO {ps : List Str} (F : OkF X.prog X.w X.K X.mg X.base k x ps C) (hr : RoomG k X.A) (hx : Psd X W) (ha : AA X W (e :: es) Fr) (hl : ∀ ρ S ds S', Fr ρ S = .ok ds S' → ds.length = (e :: es).length) (hn : (e :: es).length = ps.length := by rfl)
    (hg : Gl X x := by rfl) (hdb : (x == ("__debug__" : Str)) = false := by decide) (he : starEach (e :: es) X.env = (false, eval e X.env) :: starEach es X.env := by rfl) (hpl : (backTo pos (starEach es X.env)).any (·.1) = false := by rfl) :
    AE X W (.Call (.Name x p) (e :: es) [] pos) (eCallD C Fr) := by
  obtain ⟨f, fd, a, b, c, d, _⟩ := F
  rw [← hn] at a
  exact ae_callG a hr b c d hx ha hl hg hdb he hpl
end
theorem blk_ok {N : List Str} {sc scope : Scope} {own : List (Str × Nat)} (a : scope.kind = .function) (b : ∀ y ∈ scope.names, scope.names.lookup y.1 = some y.2) (c : ∀ p ∈ own, N[p.2]? = some p.1)
    (d : ∀ y ∈ scope.names, y.2 = .free → sc.names.lookup y.1 = some .cell ∨ sc.names.lookup y.1 = some .free) (e : ∀ y ∈ scope.names, y.2 = .local ∨ y.2 = .cell → y.1 ∈ own.map (·.1) ∨ y.1 ∉ N) : BlkOk N sc scope own := ⟨a, b, c, d, e⟩
theorem bt_len : bootBuiltins "len" = some (.builtin "len") := by decide +kernel
theorem bt_repr : bootBuiltins "repr" = some (.builtin "repr") := by decide +kernel
theorem bt_sorted : bootBuiltins "sorted" = some (.builtin "sorted") := by decide +kernel
theorem bt_min : bootBuiltins "min" = some (.builtin "min") := by decide +kernel
theorem bt_max : bootBuiltins "max" = some (.builtin "max") := by decide +kernel
theorem bt_all : bootBuiltins "all" = some (.builtin "all") := by decide +kernel
theorem bt_any : bootBuiltins "any" = some (.builtin "any") := by decide +kernel
theorem bt_sum : bootBuiltins "sum" = some (.builtin "sum") := by decide +kernel
theorem bt_int : bootBuiltins "int" = some (.type "int") := by decide +kernel
theorem bt_list : bootBuiltins "list" = some (.type "list") := by decide +kernel
theorem bt_tuple : bootBuiltins "tuple" = some (.type "tuple") := by decide +kernel
theorem bt_str : bootBuiltins "str" = some (.type "str") := by decide +kernel
theorem bt_dict : bootBuiltins "dict" = some (.type "dict") := by decide +kernel
theorem bt_bool : bootBuiltins "bool" = some (.type "bool") := by decide +kernel
theorem bt_set : bootBuiltins "set" = some (.type "set") := by decide +kernel
/-! ### facts of the top -/
section
variable {K : PySem.W.Frag} {h : Heap} {mg : Str → Option Value} {x : Str} {st : Stmt} {ps : List Str}
theorem df_mk (X : K.In h) (G : h.Ns mainGlobals mg) {f : Addr} {oc : Value} {od an : Option Addr} {osl : Array (Option Value)} {kV doc pm cdv ct : Value}
    (a : PySem.W.nsIn K mainGlobals x = some (some (.ref f))) (l : K.lookup f = some ⟨oc, od, .func (PySem.W.fnOf x x (defArgs st) (defBody st) (defScope st) .none kV doc pm an cdv ct), osl⟩) (c : PySem.W.codeIn K cdv x = true) (k : PySem.W.keepIn K (.ref f) = true)
    (b : ∀ (kV doc pm : Value) (an : Option Addr) (cdv ct : Value) (us : List Value), us.length = ps.length → bindArgs (PySem.W.fnOf x x (defArgs st) (defBody st) (defScope st) .none kV doc pm an cdv ct) ⟨us, []⟩ = pure (ps.zip us)) : Df K mg x st ps :=
  have F := fun_mk (st := st) l c k
  ⟨_, _, F, PySem.W.mg_of X G a, b kV doc pm an cdv ct⟩
theorem cn_int (X : K.In h) (G : h.Ns mainGlobals mg) {i : Int} {t : Tok} (a : PySem.W.nsIn K mainGlobals x = some (some (.int i t))) : Cn K mg x (.int i) := ⟨_, .int i, PySem.W.mg_of X G a, ⟨t, rfl⟩, fun _ _ => rv_int⟩
theorem cn_str (X : K.In h) (G : h.Ns mainGlobals mg) {y : Str} {t : Tok} (a : PySem.W.nsIn K mainGlobals x = some (some (.str y t))) (z : List Nat) (e : y = toS z) : Cn K mg x (.str z) := ⟨_, .str y, PySem.W.mg_of X G a, ⟨t, rfl⟩, fun _ _ => by rw [e]; exact rv_str⟩
inductive StrsV : List Value → List (List Nat) → Prop
  | nil : StrsV [] []
  | cons {y : Str} {t : Tok} {us : List Value} {z : List Nat} {zs : List (List Nat)} (e : y = toS z) (r : StrsV us zs) : StrsV (.str y t :: us) (z :: zs)
theorem StrsV.vals : ∀ {us : List Value} {zs : List (List Nat)}, StrsV us zs → Vals ((zs.map toS).map V.str) us
  | _, _, .nil => .nil
  | _, _, .cons e r => by rw [e]; exact .cons ⟨_, rfl⟩ r.vals
theorem cn_strs (X : K.In h) (G : h.Ns mainGlobals mg) {p : Addr} {o : Obj} {its : Array Value} {n : Nat} (a : PySem.W.nsIn K mainGlobals x = some (some (.ref p))) (l : K.lookup p = some o) (zs : List (List Nat)) (h1 : o.cls = .type "tuple") (h3 : o.data = .seq its n) (h4 : its.size ≤ sizeLine) (h5 : StrsV its.toList zs) : Cn K mg x (.tup (zs.map .str)) :=
  ⟨_, .ref p, PySem.W.mg_of X G a, rfl, fun φ H => rv_tup (.inr ⟨o, its, n, l, h1, h3, h4, h5.vals⟩) (.of_strs zs)⟩
end
end Al

set_option Elab.async false
set_option linter.all false
set_option maxRecDepth 100000
set_option maxHeartbeats 1000000
/-! Al, plain: reasoning about what is computed. -/
namespace Al
open PySem PySem.Spec PyProof.Rows L2
/-- it ends well, and so -/
def Ends {α : Type} (r : Res α) (Q : α → Store → Prop) : Prop := match r with
  | .ok a S => Q a S
  | _ => False
section
variable {α β : Type} {r : Res α} {Q R : α → Store → Prop}
@[simp] theorem ends_ok {a : α} {S : Store} : Ends (.ok a S) Q = Q a S := rfl
@[simp] theorem bind_assoc {γ : Type} {f : α → Store → Res β} {g : β → Store → Res γ} : (r.bind f).bind g = r.bind fun a S => (f a S).bind g := by cases r <;> rfl
@[simp] theorem bind_ret : (r.bind fun a S => Res.ok a S) = r := by cases r <;> rfl
theorem ends_bind {f : α → Store → Res β} {Q : β → Store → Prop} : Ends (r.bind f) Q = Ends r fun a S => Ends (f a S) Q := by cases r <;> rfl
theorem Ends.mono (h : Ends r Q) (i : ∀ a S, Q a S → R a S) : Ends r R := by
  cases r with
  | ok a S => exact i a S h
  | _ => exact h.elim
/-- go on behind a part -/
theorem Ends.thn {f : α → Store → Res β} {P : β → Store → Prop} (h : Ends r Q) (i : ∀ a S, Q a S → Ends (f a S) P) : Ends (r.bind f) P := by
  rw [ends_bind]; exact h.mono i
theorem Ends.ex (h : Ends r Q) : ∃ a S, r = .ok a S ∧ Q a S := by
  cases r with
  | ok a S => exact ⟨a, S, rfl, h⟩
  | _ => exact h.elim
theorem Ends.eq {a : α} {S : Store} (h : r = .ok a S) (q : Q a S) : Ends r Q := by rw [h]; exact q
end
@[simp] theorem quiet_ok {α : Type} (a : α) (S : Store) : (Res.ok a S).quiet = .ok a S := rfl
theorem ends_quiet {α : Type} {r : Res α} {Q : α → Store → Prop} : Ends r.quiet Q = Ends r Q := by cases r <;> rfl
@[simp] theorem of_some {α : Type} (p : α × Store) : Res.of (some p) = .ok p.1 p.2 := rfl
@[simp] theorem lim_is : lim = 16777216 := rfl
/-! ### evaluation -/
section
variable (ρ : Env) (S : Store)
@[simp] theorem ev_C (d : D) : eC d ρ S = .ok d S := rfl
@[simp] theorem ev_op (f : F2) (a b : EF) : eOp f a b ρ S = (a ρ S).bind fun x S1 => (b ρ S1).bind fun y S2 => .of (f x y S2) := rfl
@[simp] theorem ev_chain (f g : F2) (a b c : EF) : eChain f g a b c ρ S = (a ρ S).bind fun x S1 => (b ρ S1).bind fun y S2 => (Res.of (f x y S2)).bind fun z S3 => match z with
  | .bl true => (c ρ S3).bind fun w S4 => .of (g y w S4)
  | .bl false => .ok (.bl false) S3
  | _ => .stuck := rfl
@[simp] theorem ev_tOf (F : EF) : tOf F ρ S = (F ρ S).bind asB := rfl
@[simp] theorem asB_bl (b : Bool) : asB (.bl b) S = .ok b S := rfl
@[simp] theorem ev_tAnd (t u : TF) : tAndF t u ρ S = (t ρ S).bind fun b S1 => if b = true then u ρ S1 else .ok false S1 := rfl
@[simp] theorem ev_tOr (t u : TF) : tOrF t u ρ S = (t ρ S).bind fun b S1 => if b = true then .ok true S1 else u ρ S1 := rfl
@[simp] theorem ev_tNot (t : TF) : tNotF t ρ S = (t ρ S).bind fun b S1 => .ok (!b) S1 := rfl
@[simp] theorem ev_tYes : tYesF ρ S = .ok true S := rfl
@[simp] theorem ev_and (a b : EF) : eAnd a b ρ S = (a ρ S).bind fun x S1 => match x with
  | .bl true => b ρ S1
  | .bl false => .ok (.bl false) S1
  | _ => .stuck := rfl
@[simp] theorem ev_or (a b : EF) : eOr a b ρ S = (a ρ S).bind fun x S1 => match x with
  | .bl true => .ok (.bl true) S1
  | .bl false => b ρ S1
  | _ => .stuck := rfl
@[simp] theorem ev_not (a : EF) : eNot a ρ S = (a ρ S).bind fun x S1 => match x with
  | .bl b => .ok (.bl (!b)) S1
  | _ => .stuck := rfl
@[simp] theorem ev_neg (a : EF) : eNeg a ρ S = (a ρ S).bind fun x S1 => match x with
  | .int i => .ok (.int (-i)) S1
  | _ => .stuck := rfl
@[simp] theorem ev_if (t : TF) (a b : EF) : eIf t a b ρ S = (t ρ S).bind fun c S1 => if c = true then a ρ S1 else b ρ S1 := rfl
@[simp] theorem ev_aNil : aNil ρ S = .ok [] S := rfl
@[simp] theorem ev_aCons (a : EF) (r : AF) : aCons a r ρ S = (a ρ S).bind fun x S1 => (r ρ S1).bind fun xs S2 => .ok (x :: xs) S2 := rfl
@[simp] theorem ev_tup (a : AF) : eTup a ρ S = (a ρ S).bind fun xs S1 => if xs.length ≤ lim then .ok (.tup xs) S1 else .stuck := rfl
@[simp] theorem ev_lst (a : AF) : eLst a ρ S = (a ρ S).bind fun xs S1 => if xs.length ≤ lim then .ok (.ref S1.length) (S1 ++ [.lst xs]) else .stuck := rfl
@[simp] theorem ev_call (g : FN) (a : AF) : eCall g a ρ S = (a ρ S).bind fun xs S1 => .of (g xs S1) := rfl
@[simp] theorem ev_callD (C : CF) (a : AF) : eCallD C a ρ S = (a ρ S).bind fun ds S1 => C ds S1 := rfl
@[simp] theorem ev_isi (t : Kd → Bool) (a : EF) : eIsi t a ρ S = (a ρ S).bind fun x S1 => match kdOf x S1 with
  | some k => .ok (.bl (t k)) S1
  | none => .stuck := rfl
@[simp] theorem ev_m (T : String) (g : FM) (o : EF) (a : AF) : eM T g o a ρ S = (o ρ S).bind fun x S1 => if tyD T x S1 = true then (a ρ S1).bind fun ds S2 => .of (g x ds S2) else .stuck := rfl
@[simp] theorem ev_pNone : pNone ρ S = .ok none S := rfl
@[simp] theorem ev_pSome (a : EF) : pSome a ρ S = (a ρ S).bind fun x S1 => match x with
  | .int i => .ok (some i) S1
  | _ => .stuck := rfl
@[simp] theorem ev_sl (a : EF) (lo hi : PF) : eSl a lo hi ρ S = (a ρ S).bind fun x S1 => (lo ρ S1).bind fun l S2 => (hi ρ S2).bind fun u S3 => .of (sliceO x l u S3) := rfl
@[simp] theorem ev_nx : sNx ρ S = .ok (.nx ρ) S := rfl
@[simp] theorem ev_bk : sBk ρ S = .ok (.bk ρ) S := rfl
@[simp] theorem ev_ct : sCt ρ S = .ok (.ct ρ) S := rfl
@[simp] theorem ev_retN : sRetN ρ S = .ok (.ret .non) S := rfl
@[simp] theorem ev_seq (a b : SF) : sSeq a b ρ S = (a ρ S).bind fun o S1 => match o with
  | .nx ρ1 => b ρ1 S1
  | o => .ok o S1 := rfl
@[simp] theorem ev_expr (a : EF) : sExpr a ρ S = (a ρ S).bind fun _ S1 => .ok (.nx ρ) S1 := rfl
@[simp] theorem ev_ret (a : EF) : sRet a ρ S = (a ρ S).bind fun d S1 => .ok (.ret d) S1 := rfl
@[simp] theorem ev_sIf (t : TF) (a b : SF) : sIf t a b ρ S = (t ρ S).bind fun c S1 => if c = true then a ρ S1 else b ρ S1 := rfl
@[simp] theorem ev_set (i : Nat) (a : EF) : sSet i a ρ S = (a ρ S).bind fun d S1 => .ok (.nx (ρ.set i (some d))) S1 := rfl
@[simp] theorem ev_asg (t : Tg) (a : EF) : sAsg t a ρ S = (a ρ S).bind fun d S1 => match tgD t d ρ with
  | some ρ' => .ok (.nx ρ') S1
  | none => .stuck := rfl
@[simp] theorem ev_par (i j : Nat) (a : AF) : sPar i j a ρ S = (a ρ S).bind fun ds S1 => match ds with
  | [x, y] => .ok (.nx ((ρ.set i (some x)).set j (some y))) S1
  | _ => .stuck := rfl
@[simp] theorem ev_put (g : D → D → D → Store → Option Store) (v o i : EF) : sPut g v o i ρ S = (v ρ S).bind fun x S1 => (o ρ S1).bind fun y S2 => (i ρ S2).bind fun z S3 => match g y z x S3 with
  | some S4 => .ok (.nx ρ) S4
  | none => .stuck := rfl
@[simp] theorem ev_for (it : IF) (t : Tg) (body : SF) : sFor it t body ρ S = (it ρ S).bind fun src S1 => forF src.nxt t body src.fuel 0 ρ S1 := rfl
@[simp] theorem ev_while (c : TF) (body : SF) : sWhile c body ρ S = whileF c body turns ρ S := rfl
@[simp] theorem ev_lc (it : IF) (t : Tg) (ti : TF) (el : EF) (vs : List Nat) : eLc it t ti el vs ρ S = (it ρ S).bind fun src S1 => lcF src.nxt t ti el S1.length src.fuel 0 (wipeE ρ vs) (S1 ++ [.lst []]) := rfl
@[simp] theorem ev_iVal (a : EF) : iVal a ρ S = (a ρ S).bind fun d S1 => ofSrc (srcOf d S1) S1 := rfl
@[simp] theorem ev_iEn (a : AF) : iEn a ρ S = (a ρ S).bind fun ds S1 => match ds with
  | [d] => ofSrc (srcEn d S1) S1
  | _ => .stuck := rfl
@[simp] theorem ev_iRange (a : AF) : iRange a ρ S = (a ρ S).bind fun ds S1 => ofSrc (srcRg ds) S1 := rfl
@[simp] theorem ev_body (n : Nat) (B : SF) (ds : List D) : bodyF n B ds S = (B (startE n ds) S).bind fun o S' => match o with
  | .ret d => .ok d S'
  | .nx _ => .ok .non S'
  | _ => .stuck := rfl
@[simp] theorem ofSrc_some (s : Src) : ofSrc (some s) S = .ok s S := rfl
end
@[simp] theorem ev_var (i : Nat) (ρ : Env) (S : Store) (d : D) (h : ρ[i]? = some (some d)) : eVar i ρ S = .ok d S := by unfold eVar; rw [h]
@[simp] theorem ev_aug (i : Nat) (f : F2) (a : EF) (ρ : Env) (S : Store) (x : D) (h : ρ[i]? = some (some x)) : sAug i f a ρ S = (a ρ S).bind fun y S1 => (Res.of (f x y S1)).bind fun z S2 => .ok (.nx (ρ.set i (some z))) S2 := by
  unfold sAug; rw [h]
@[simp] theorem iaddO_int (i j : Int) (S : Store) : iaddO (.int i) (.int j) S = some (.int (i + j), S) := rfl
/-! ### operations on known kinds -/
section
variable (S : Store) (i j : Int) (a b : List Nat) (ds es : List D)
@[simp] theorem addO_int : addO (.int i) (.int j) S = some (.int (i + j), S) := rfl
@[simp] theorem addO_str : addO (.str a) (.str b) S = if a.length + b.length ≤ lim then some (.str (a ++ b), S) else none := rfl
@[simp] theorem addO_tup : addO (.tup ds) (.tup es) S = if ds.length + es.length ≤ lim then some (.tup (ds ++ es), S) else none := rfl
@[simp] theorem subO_int : subO (.int i) (.int j) S = some (.int (i - j), S) := rfl
@[simp] theorem mulO_int : mulO (.int i) (.int j) S = if smallI i || smallI j then some (.int (i * j), S) else none := rfl
@[simp] theorem modO_int : modO (.int i) (.int j) S = if 0 < j then some (.int (i % j), S) else none := rfl
@[simp] theorem fdivO_int : fdivO (.int i) (.int j) S = if 0 < j ∧ j < 1073741824 then some (.int (i / j), S) else none := rfl
@[simp] theorem eqO_str : eqO (.str a) (.str b) S = some (.bl (a == b), S) := rfl
@[simp] theorem eqO_int : eqO (.int i) (.int j) S = some (.bl (i == j), S) := rfl
@[simp] theorem neO_str : neO (.str a) (.str b) S = some (.bl (!(a == b)), S) := rfl
@[simp] theorem neO_int : neO (.int i) (.int j) S = some (.bl (!(i == j)), S) := rfl
@[simp] theorem ltO_int : ltO (.int i) (.int j) S = some (.bl (decide (i < j)), S) := rfl
@[simp] theorem leO_int : leO (.int i) (.int j) S = some (.bl (decide (i ≤ j)), S) := rfl
@[simp] theorem gtO_int : gtO (.int i) (.int j) S = some (.bl (decide (j < i)), S) := rfl
@[simp] theorem geO_int : geO (.int i) (.int j) S = some (.bl (decide (j ≤ i)), S) := rfl
@[simp] theorem inO_sign (c : Nat) : inO (.str [c]) (.str b) S = some (.bl (decide (c ∈ b)), S) := rfl
@[simp] theorem notInO_sign (c : Nat) : notInO (.str [c]) (.str b) S = some (.bl (!decide (c ∈ b)), S) := rfl
@[simp] theorem lenF_str : lenF [.str a] S = if a.length ≤ lim then some (.int a.length, S) else none := rfl
@[simp] theorem lenF_tup : lenF [.tup ds] S = some (.int ds.length, S) := rfl
@[simp] theorem lenF_scl : lenF [.scl ds] S = some (.int ds.length, S) := rfl
theorem lenF_ref (n : Nat) (h : S[n]? = some (.lst ds)) : lenF [.ref n] S = some (.int ds.length, S) := by unfold lenF; simp only [h]
@[simp] theorem ixO_tup : ixO (.tup ds) (.int i) S = (atI ds i).map fun d => (d, S) := rfl
@[simp] theorem ixO_str : ixO (.str a) (.int i) S = if a.length ≤ lim then (atI a i).map fun c => (.str [c], S) else none := rfl
theorem ixO_ref (n : Nat) (h : S[n]? = some (.lst ds)) : ixO (.ref n) (.int i) S = (atI ds i).map fun d => (d, S) := by
  show ((lstAt S n).bind fun xs => atI xs i).map (fun d => (d, S)) = _
  unfold lstAt; simp only [h]; rfl
@[simp] theorem kd_str : kdOf (.str a) S = some .str := rfl
@[simp] theorem kd_tup : kdOf (.tup ds) S = some .tup := rfl
@[simp] theorem kd_int : kdOf (.int i) S = some .int := rfl
@[simp] theorem isStr_str : isStr .str = true := rfl
@[simp] theorem isStr_tup : isStr .tup = false := rfl
@[simp] theorem isTup_str : isTup .str = false := rfl
@[simp] theorem isTup_tup : isTup .tup = true := rfl
@[simp] theorem intF_int : intF [.int i] S = some (.int i, S) := rfl
@[simp] theorem minF_int : minF [.int i, .int j] S = some (.int (if j < i then j else i), S) := rfl
@[simp] theorem sliceO_str (lo hi : Option Int) : sliceO (.str a) lo hi S = if a.length ≤ lim then some (.str (cutL a lo hi), S) else none := rfl
@[simp] theorem sliceO_tup (lo hi : Option Int) : sliceO (.tup ds) lo hi S = some (.tup (cutL ds lo hi), S) := rfl
@[simp] theorem srcOf_tup : srcOf (.tup ds) S = some ⟨ds.length + 1, fun i _ => nxL ds i⟩ := rfl
@[simp] theorem srcOf_str : srcOf (.str a) S = some ⟨a.length + 1, fun i _ => nxL (signs a) i⟩ := rfl
@[simp] theorem srcEn_tup : srcEn (.tup ds) S = some ⟨ds.length + 1, fun i _ => nxEn ds i⟩ := rfl
@[simp] theorem srcEn_str : srcEn (.str a) S = some ⟨a.length + 1, fun i _ => nxEn (signs a) i⟩ := rfl
theorem lstAt_of {n : Nat} {xs : List D} (h : S[n]? = some (.lst xs)) : lstAt S n = some xs := by unfold lstAt; simp only [h]
theorem dctAt_of {n : Nat} {xs : List (List Nat × D)} (h : S[n]? = some (.dct xs)) : dctAt S n = some xs := by unfold dctAt; simp only [h]
end
@[simp] theorem atI_0 {α : Type} (a : α) (l : List α) : L2.atI (a :: l) 0 = some a := L2.atI_nat (j := 0) rfl
@[simp] theorem atI_1 {α : Type} (a b : α) (l : List α) : L2.atI (a :: b :: l) 1 = some b := L2.atI_nat (j := 1) rfl
@[simp] theorem atI_2 {α : Type} (a b c : α) (l : List α) : L2.atI (a :: b :: c :: l) 2 = some c := L2.atI_nat (j := 2) rfl
theorem mapO_map {α β γ : Type} {f : β → Option γ} {g : α → β} {h : α → γ} : ∀ (l : List α), (∀ x ∈ l, f (g x) = some (h x)) → mapO f (l.map g) = some (l.map h)
  | [], _ => rfl
  | x :: l, e => by
    simp only [List.map_cons, mapO, e x (List.mem_cons_self ..), mapO_map l fun y hy => e y (List.mem_cons_of_mem _ hy)]
theorem mapO_all {α β : Type} {f : α → Option β} {h : α → β} (l : List α) (e : ∀ x ∈ l, f x = some (h x)) : mapO f l = some (l.map h) := by
  have := mapO_map (f := f) (g := id) (h := h) l e
  simpa using this
/-! ### loops -/
theorem for_ends {nxt : Nat → Store → Option (Option D)} {t : Tg} {body : SF} {Q : Out → Store → Prop} (len : Nat) (item : Nat → D) (I : Nat → Env → Store → Prop)
    (hn : ∀ i ρ S, I i ρ S → i ≤ len → nxt i S = if i < len then some (some (item i)) else some none)
    (step : ∀ i ρ S, i < len → I i ρ S → ∃ ρ1, tgD t (item i) ρ = some ρ1 ∧ Ends (body ρ1 S) fun o S1 => match o with
      | .nx ρ2 => I (i + 1) ρ2 S1
      | .ct ρ2 => I (i + 1) ρ2 S1
      | .bk ρ2 => Q (.nx ρ2) S1
      | .ret d => Q (.ret d) S1)
    (fin : ∀ ρ S, I len ρ S → Q (.nx ρ) S) : ∀ (n i : Nat) (ρ : Env) (S : Store), I i ρ S → i ≤ len → len < n + i → Ends (forF nxt t body n i ρ S) Q
  | 0, i, ρ, S, h, le, lt => absurd lt (by omega)
  | n + 1, i, ρ, S, h, le, lt => by
    unfold forF
    rw [hn i ρ S h le]
    by_cases hi : i < len
    · rw [if_pos hi]
      obtain ⟨ρ1, e1, e2⟩ := step i ρ S hi h
      simp only [e1]
      refine e2.thn fun o S1 q => ?_
      cases o with
      | nx ρ2 => exact for_ends len item I hn step fin n (i + 1) ρ2 S1 q hi (by omega)
      | ct ρ2 => exact for_ends len item I hn step fin n (i + 1) ρ2 S1 q hi (by omega)
      | bk ρ2 => exact q
      | ret d => exact q
    · rw [if_neg hi]
      obtain rfl : i = len := by omega
      exact fin ρ S h
theorem lc_ends {nxt : Nat → Store → Option (Option D)} {t : Tg} {ti : TF} {el : EF} {n : Nat} {ρ : Env} {Q : D → Store → Prop} (len : Nat) (item : Nat → D) (I : Nat → List D → Store → Prop) (small : len < lim)
    (hn : ∀ i acc S, I i acc S → i ≤ len → nxt i S = if i < len then some (some (item i)) else some none)
    (step : ∀ i acc S, i < len → I i acc S → S[n]? = some (.lst acc) → ∃ ρ1, tgD t (item i) ρ = some ρ1 ∧ Ends (ti ρ1 S) fun b S1 => if b = true then Ends (el ρ1 S1) fun y S2 => S2[n]? = some (.lst acc) ∧ I (i + 1) (acc ++ [y]) (S2.set n (.lst (acc ++ [y])))
      else S1[n]? = some (.lst acc) ∧ I (i + 1) acc S1)
    (fin : ∀ acc S, I len acc S → S[n]? = some (.lst acc) → Q (.ref n) S) :
    ∀ (m i : Nat) (acc : List D) (S : Store), I i acc S → S[n]? = some (.lst acc) → acc.length ≤ i → i ≤ len → len < m + i → Ends (lcF nxt t ti el n m i ρ S) Q
  | 0, i, acc, S, h, e, la, le, lt => absurd lt (by omega)
  | m + 1, i, acc, S, h, e, la, le, lt => by
    unfold lcF
    rw [hn i acc S h le]
    by_cases hi : i < len
    · rw [if_pos hi]
      obtain ⟨ρ1, e1, e2⟩ := step i acc S hi h e
      simp only [e1]
      rw [ends_bind, ends_quiet]
      refine e2.mono fun b S1 q => ?_
      cases b with
      | false =>
        simp only [Bool.false_eq_true, if_false] at q ⊢
        exact lc_ends len item I small hn step fin m (i + 1) acc S1 q.2 q.1 (by omega) hi (by omega)
      | true =>
        simp only [if_true] at q ⊢
        rw [ends_bind, ends_quiet]
        refine q.mono fun y S2 q2 => ?_
        rw [q2.1]
        have hl : n < S2.length := (List.getElem?_eq_some_iff.mp q2.1).1
        simp only
        rw [if_pos (by omega)]
        exact lc_ends len item I small hn step fin m (i + 1) (acc ++ [y]) _ q2.2 (by rw [List.getElem?_set_self hl]) (by simp; omega) hi (by omega)
    · rw [if_neg hi]
      obtain rfl : i = len := by omega
      exact fin acc S h e
theorem while_ends {c : TF} {body : SF} {Q : Out → Store → Prop} (I : Nat → Env → Store → Prop)
    (step : ∀ n ρ S, I n ρ S → Ends (c ρ S) fun b S1 => if b = true then Ends (body ρ S1) fun o S2 => match o with
        | .nx ρ2 => ∃ m, m < n ∧ I m ρ2 S2
        | .ct ρ2 => ∃ m, m < n ∧ I m ρ2 S2
        | .bk ρ2 => Q (.nx ρ2) S2
        | .ret d => Q (.ret d) S2
      else Q (.nx ρ) S1) : ∀ (n k : Nat) (ρ : Env) (S : Store), I n ρ S → n < k → Ends (whileF c body k ρ S) Q
  | n, 0, ρ, S, h, lt => absurd lt (by omega)
  | n, k + 1, ρ, S, h, lt => by
    unfold whileF
    refine (step n ρ S h).thn fun b S1 q => ?_
    cases b with
    | false => simp only [Bool.false_eq_true, if_false] at q ⊢; exact q
    | true =>
      simp only [if_true] at q ⊢
      refine q.thn fun o S2 q2 => ?_
      cases o with
      | nx ρ2 => obtain ⟨m, lm, hm⟩ := q2; exact while_ends I step m k ρ2 S2 hm (by omega)
      | ct ρ2 => obtain ⟨m, lm, hm⟩ := q2; exact while_ends I step m k ρ2 S2 hm (by omega)
      | bk ρ2 => exact q2
      | ret d => exact q2
/-! sources -/
theorem nxL_is (ds : List D) (i : Nat) (h : i ≤ ds.length) : nxL ds i = if i < ds.length then some (some (ds.getD i .non)) else some none := by
  unfold nxL
  by_cases e : i = ds.length
  · rw [if_pos e, if_neg (by omega)]
  · have hl : i < ds.length := by omega
    rw [if_neg e, if_pos hl, List.getElem?_eq_getElem hl]
    simp [List.getD, List.getElem?_eq_getElem hl]
theorem nxEn_is (ds : List D) (i : Nat) (h : i ≤ ds.length) : nxEn ds i = if i < ds.length then some (some (.tup [.int (i : Nat), ds.getD i .non])) else some none := by
  unfold nxEn
  by_cases e : i = ds.length
  · rw [if_pos e, if_neg (by omega)]
  · have hl : i < ds.length := by omega
    rw [if_neg e, if_pos hl, List.getElem?_eq_getElem hl]
    simp [List.getD, List.getElem?_eq_getElem hl]
end Al
namespace Al
/-- for x in a tuple, a text -/
theorem for_tup {α : Type} (l : List α) (g : α → D) {v : Nat} {body : SF} {Q : Out → Store → Prop} {ρ : Env} {S : Store} (I : Nat → Env → Store → Prop) (h0 : I 0 ρ S)
    (step : ∀ i a ρ S, l[i]? = some a → I i ρ S → Ends (body (ρ.set v (some (g a))) S) fun o S1 => match o with
      | .nx ρ2 => I (i + 1) ρ2 S1
      | .ct ρ2 => I (i + 1) ρ2 S1
      | .bk ρ2 => Q (.nx ρ2) S1
      | .ret d => Q (.ret d) S1)
    (fin : ∀ ρ S, I l.length ρ S → Q (.nx ρ) S) : Ends (forF (fun i _ => nxL (l.map g) i) (.nm v) body (l.length + 1) 0 ρ S) Q := by
  refine for_ends l.length (fun i => (l.map g).getD i .non) I ?_ ?_ fin _ 0 _ _ h0 (Nat.zero_le _) (by omega)
  · intro i ρ S _ hi
    have := nxL_is (l.map g) i (by simpa using hi)
    simpa using this
  · intro i ρ S hi h
    refine ⟨_, rfl, ?_⟩
    have e : (l.map g).getD i .non = g l[i] := by simp [hi]
    rw [e]
    exact step i l[i] ρ S (List.getElem?_eq_getElem hi) h
/-- for i, x in enumerate(a tuple, a text) -/
theorem for_enum {α : Type} (l : List α) (g : α → D) {u v : Nat} {body : SF} {Q : Out → Store → Prop} {ρ : Env} {S : Store} (I : Nat → Env → Store → Prop) (h0 : I 0 ρ S)
    (step : ∀ i a ρ S, l[i]? = some a → I i ρ S → Ends (body ((ρ.set u (some (.int (i : Nat)))).set v (some (g a))) S) fun o S1 => match o with
      | .nx ρ2 => I (i + 1) ρ2 S1
      | .ct ρ2 => I (i + 1) ρ2 S1
      | .bk ρ2 => Q (.nx ρ2) S1
      | .ret d => Q (.ret d) S1)
    (fin : ∀ ρ S, I l.length ρ S → Q (.nx ρ) S) : Ends (forF (fun i _ => nxEn (l.map g) i) (.tp [u, v]) body (l.length + 1) 0 ρ S) Q := by
  refine for_ends l.length (fun i => .tup [.int (i : Nat), (l.map g).getD i .non]) I ?_ ?_ fin _ 0 _ _ h0 (Nat.zero_le _) (by omega)
  · intro i ρ S _ hi
    have := nxEn_is (l.map g) i (by simpa using hi)
    simpa using this
  · intro i ρ S hi h
    refine ⟨_, rfl, ?_⟩
    have e : (l.map g).getD i .non = g l[i] := by simp [hi]
    rw [e]
    exact step i l[i] ρ S (List.getElem?_eq_getElem hi) h
end Al

set_option Elab.async false
set_option linter.all false
set_option maxRecDepth 100000
set_option maxHeartbeats 4000000
/-! what the defs compute; printed by gen.py -/
namespace LK06
open PySem PySem.Spec PyProof.Rows L2 Al
def k_ASKED : D := (.str [63])
def k_BEGIN : D := (.str [36, 123])
def k_BLANK : D := (.str [32])
def k_CAPITALS : D := (.str [65, 66, 67, 68, 69, 70, 71, 72, 73, 74, 75, 76, 77, 78, 79, 80, 81, 82, 83, 84, 85, 86, 87, 88, 89, 90])
def k_CHECK : D := (.str [99, 104, 101, 99, 107])
def k_COLON : D := (.str [58])
def k_CURLY : D := (.str [123])
def k_DOLLAR : D := (.str [36])
def k_DROP : D := (.str [100, 114, 111, 112])
def k_END : D := (.str [125])
def k_EQUALS : D := (.str [61])
def k_GIVE : D := (.str [103, 105, 118, 101])
def k_GIVEN : D := (.str [63, 61])
def k_KINDS : D := (.str [45, 43, 63, 61])
def k_MOST_IN_NAME : D := (.int 8)
def k_MOST_LEVELS : D := (.int 4)
def k_MOST_NAMES : D := (.int 12)
def k_MOST_PIECES : D := (.int 8)
def k_MOST_PLAIN : D := (.int 20)
def k_MOST_ROWS : D := (.int 40)
def k_NEWLINE : D := (.str [10])
def k_PLAIN_SIGNS : D := (.str [97, 98, 99, 100, 101, 102, 103, 104, 105, 106, 107, 108, 109, 110, 111, 112, 113, 114, 115, 116, 117, 118, 119, 120, 121, 122, 48, 49, 50, 51, 52, 53, 54, 55, 56, 57, 32, 95, 46, 47, 58, 61, 44, 64, 45])
def k_SET : D := (.str [115, 101, 116])
def k_SIGNS : D := (.tup ([[], [45], [58, 45], [43], [58, 43], [63], [58, 63], [61], [58, 61]].map .str))
def B_is_name  : SF :=
  (sSeq (sIf (tOrF (tNotF (tOf (eIsi isStr (eVar 0)))) (tNotF (tOf (eChain leO leO (eC (.int 1)) (eCall lenF (aCons (eVar 0) aNil)) (eC k_MOST_IN_NAME))))) (sRet (eC (.bl false))) sNx)
    (sRet (eAnd (eOp neO (eOp ixO (eVar 0) (eC (.int 0))) (eC (.str [95]))) (eCall allF (aCons (eLc (iVal (eVar 0)) (.nm 1) tYesF (eOp inO (eVar 1) (eOp addO (eC k_CAPITALS) (eC (.str [95])))) [1]) aNil)))))
@[irreducible] def C_is_name : CF := bodyF 2 B_is_name
def B_is_plain  : SF :=
  (sSeq (sIf (tOrF (tNotF (tOf (eIsi isStr (eVar 0)))) (tNotF (tOf (eChain leO leO (eC (.int 1)) (eCall lenF (aCons (eVar 0) aNil)) (eC k_MOST_PLAIN))))) (sRet (eC (.bl false))) sNx)
    (sRet (eCall allF (aCons (eLc (iVal (eVar 0)) (.nm 1) tYesF (eOp inO (eVar 1) (eC k_PLAIN_SIGNS)) [1]) aNil))))
@[irreducible] def C_is_plain : CF := bodyF 2 B_is_plain
def B_is_part (r_is_part : CF) (r_is_text_of : CF) : SF :=
  (sSeq (sIf (tOrF (tNotF (tOf (eIsi isTup (eVar 0)))) (tOrF (tOf (eOp neO (eCall lenF (aCons (eVar 0) aNil)) (eC (.int 3)))) (tNotF (tOf (eCallD C_is_name (aCons (eOp ixO (eVar 0) (eC (.int 0))) aNil)))))) (sRet (eC (.bl false))) sNx)
    (sSeq (sIf (tOrF (tNotF (tOf (eIsi isStr (eOp ixO (eVar 0) (eC (.int 1)))))) (tOf (eOp notInO (eOp ixO (eVar 0) (eC (.int 1))) (eC k_SIGNS)))) (sRet (eC (.bl false))) sNx)
    (sSeq (sIf (tOf (eOp eqO (eOp ixO (eVar 0) (eC (.int 1))) (eC (.str [])))) (sRet (eAnd (eIsi isTup (eOp ixO (eVar 0) (eC (.int 2)))) (eOp eqO (eCall lenF (aCons (eOp ixO (eVar 0) (eC (.int 2))) aNil)) (eC (.int 0))))) sNx)
    (sRet (eAnd (eOp gtO (eVar 1) (eC (.int 0))) (eCallD r_is_text_of (aCons (eOp ixO (eVar 0) (eC (.int 2))) (aCons (eVar 1) aNil))))))))
def B_is_text_of (r_is_part : CF) (r_is_text_of : CF) : SF :=
  (sSeq (sIf (tOrF (tNotF (tOf (eIsi isTup (eVar 0)))) (tOf (eOp gtO (eCall lenF (aCons (eVar 0) aNil)) (eC k_MOST_PIECES)))) (sRet (eC (.bl false))) sNx)
    (sSeq (sFor (iEn (aCons (eVar 0) aNil)) (.tp [2, 3]) (sSeq (sIf (tAndF (tNotF (tOf (eCallD C_is_plain (aCons (eVar 3) aNil)))) (tNotF (tOf (eCallD r_is_part (aCons (eVar 3) (aCons (eOp subO (eVar 1) (eC (.int 1))) aNil)))))) (sRet (eC (.bl false))) sNx)
    (sIf (tAndF (tOf (eOp gtO (eVar 2) (eC (.int 0)))) (tAndF (tOf (eIsi isStr (eVar 3))) (tOf (eIsi isStr (eOp ixO (eVar 0) (eOp subO (eVar 2) (eC (.int 1)))))))) (sRet (eC (.bl false))) sNx)))
    (sRet (eC (.bl true)))))
mutual
def C_is_part : Nat → CF
  | 0 => fun _ _ => .stuck
  | n + 1 => bodyF 2 (B_is_part (C_is_part n) (C_is_text_of n))
def C_is_text_of : Nat → CF
  | 0 => fun _ _ => .stuck
  | n + 1 => bodyF 4 (B_is_text_of (C_is_part n) (C_is_text_of n))
end
def B_is_text  : SF :=
  (sRet (eCallD (C_is_text_of 8) (aCons (eVar 0) (aCons (eC k_MOST_LEVELS) aNil))))
@[irreducible] def C_is_text : CF := bodyF 1 B_is_text
def B_is_row  : SF :=
  (sSeq (sIf (tOrF (tNotF (tOf (eIsi isTup (eVar 0)))) (tOrF (tOf (eOp eqO (eCall lenF (aCons (eVar 0) aNil)) (eC (.int 0)))) (tNotF (tOf (eIsi isStr (eOp ixO (eVar 0) (eC (.int 0)))))))) (sRet (eC (.bl false))) sNx)
    (sSeq (sIf (tOf (eOp inO (eOp ixO (eVar 0) (eC (.int 0))) (eTup (aCons (eC k_SET) (aCons (eC k_GIVE) aNil))))) (sRet (eAnd (eOp eqO (eCall lenF (aCons (eVar 0) aNil)) (eC (.int 3))) (eAnd (eCallD C_is_name (aCons (eOp ixO (eVar 0) (eC (.int 1))) aNil)) (eCallD C_is_text (aCons (eOp ixO (eVar 0) (eC (.int 2))) aNil))))) sNx)
    (sSeq (sIf (tOf (eOp eqO (eOp ixO (eVar 0) (eC (.int 0))) (eC k_DROP))) (sRet (eAnd (eOp eqO (eCall lenF (aCons (eVar 0) aNil)) (eC (.int 2))) (eCallD C_is_name (aCons (eOp ixO (eVar 0) (eC (.int 1))) aNil)))) sNx)
    (sRet (eAnd (eOp eqO (eOp ixO (eVar 0) (eC (.int 0))) (eC k_CHECK)) (eAnd (eOp eqO (eCall lenF (aCons (eVar 0) aNil)) (eC (.int 2))) (eCallD C_is_text (aCons (eOp ixO (eVar 0) (eC (.int 1))) aNil))))))))
@[irreducible] def C_is_row : CF := bodyF 1 B_is_row
def B_text_of_row  : SF :=
  (sRet (eIf (tOf (eOp eqO (eOp ixO (eVar 0) (eC (.int 0))) (eC k_DROP))) (eTup aNil) (eOp ixO (eVar 0) (eNeg (eC (.int 1))))))
@[irreducible] def C_text_of_row : CF := bodyF 1 B_text_of_row
def B_names_in_text (r_names_in_text : CF) : SF :=
  (sSeq (sSet 1 (eLst aNil))
    (sSeq (sFor (iVal (eVar 0)) (.nm 2) (sIf (tOf (eIsi isTup (eVar 2))) (sSeq (sExpr (eM "list" appendM (eVar 1) (aCons (eOp ixO (eVar 2) (eC (.int 0))) aNil)))
    (sExpr (eM "list" extendM (eVar 1) (aCons (eCallD r_names_in_text (aCons (eOp ixO (eVar 2) (eC (.int 2))) aNil)) aNil)))) sNx))
    (sRet (eVar 1))))
mutual
def C_names_in_text : Nat → CF
  | 0 => fun _ _ => .stuck
  | n + 1 => bodyF 3 (B_names_in_text (C_names_in_text n))
end
def B_names_in  : SF :=
  (sSeq (sSet 1 (eLc (iVal (eVar 0)) (.nm 2) (tOf (eOp neO (eOp ixO (eVar 2) (eC (.int 0))) (eC k_CHECK))) (eOp ixO (eVar 2) (eC (.int 1))) [2]))
    (sSeq (sFor (iVal (eVar 0)) (.nm 2) (sExpr (eM "list" extendM (eVar 1) (aCons (eCallD (C_names_in_text 8) (aCons (eCallD C_text_of_row (aCons (eVar 2) aNil)) aNil)) aNil))))
    (sRet (eSortSet (eVar 1)))))
@[irreducible] def C_names_in : CF := bodyF 3 B_names_in
def B_need_file  : SF :=
  (sSeq (sIf (tOrF (tNotF (tOf (eIsi isTup (eVar 0)))) (tOf (eOp gtO (eCall lenF (aCons (eVar 0) aNil)) (eC k_MOST_ROWS)))) sNever sNx)
    (sSeq (sFor (iEn (aCons (eVar 0) aNil)) (.tp [1, 2]) (sIf (tNotF (tOf (eCallD C_is_row (aCons (eVar 2) aNil)))) sNever sNx))
    (sSeq (sIf (tOf (eOp gtO (eCall lenF (aCons (eCallD C_names_in (aCons (eVar 0) aNil)) aNil)) (eC k_MOST_NAMES))) sNever sNx)
    (sRet (eVar 0)))))
@[irreducible] def C_need_file : CF := bodyF 3 B_need_file
def B_written (r_written : CF) : SF :=
  (sSeq (sSet 1 (eLst aNil))
    (sSeq (sFor (iVal (eVar 0)) (.nm 2) (sIf (tOf (eIsi isStr (eVar 2))) (sExpr (eM "list" appendM (eVar 1) (aCons (eVar 2) aNil))) (sExpr (eM "list" appendM (eVar 1) (aCons (eOp addO (eOp addO (eOp addO (eOp addO (eC k_BEGIN) (eOp ixO (eVar 2) (eC (.int 0)))) (eOp ixO (eVar 2) (eC (.int 1)))) (eCallD r_written (aCons (eOp ixO (eVar 2) (eC (.int 2))) aNil))) (eC k_END)) aNil)))))
    (sRet (eM "str" joinM (eC (.str [])) (aCons (eVar 1) aNil)))))
mutual
def C_written : Nat → CF
  | 0 => fun _ _ => .stuck
  | n + 1 => bodyF 3 (B_written (C_written n))
end
def B_text_of  : SF :=
  (sSeq (sIf (tNotF (tOf (eCallD C_is_text (aCons (eVar 0) aNil)))) sNever sNx)
    (sRet (eCallD (C_written 8) (aCons (eVar 0) aNil))))
@[irreducible] def C_text_of : CF := bodyF 1 B_text_of
def B_row_text  : SF :=
  (sSeq (sIf (tOf (eOp eqO (eOp ixO (eVar 0) (eC (.int 0))) (eC k_DROP))) (sRet (eOp addO (eOp addO (eC k_DROP) (eC k_BLANK)) (eOp ixO (eVar 0) (eC (.int 1))))) sNx)
    (sSeq (sIf (tOf (eOp eqO (eOp ixO (eVar 0) (eC (.int 0))) (eC k_CHECK))) (sRet (eOp addO (eOp addO (eC k_CHECK) (eC k_BLANK)) (eCallD (C_written 8) (aCons (eOp ixO (eVar 0) (eC (.int 1))) aNil)))) sNx)
    (sRet (eOp addO (eOp addO (eOp ixO (eVar 0) (eC (.int 1))) (eIf (tOf (eOp eqO (eOp ixO (eVar 0) (eC (.int 0))) (eC k_SET))) (eC k_EQUALS) (eC k_GIVEN))) (eCallD (C_written 8) (aCons (eOp ixO (eVar 0) (eC (.int 2))) aNil))))))
@[irreducible] def C_row_text : CF := bodyF 1 B_row_text
def B_file_text  : SF :=
  (sRet (eM "str" joinM (eC k_NEWLINE) (aCons (eLc (iVal (eCallD C_need_file (aCons (eVar 0) aNil))) (.nm 1) tYesF (eCallD C_row_text (aCons (eVar 1) aNil)) [1]) aNil)))
@[irreducible] def C_file_text : CF := bodyF 2 B_file_text
def B_need_sign  : SF :=
  (sIf (tOrF (tOf (eOp geO (eVar 1) (eCall lenF (aCons (eVar 0) aNil)))) (tOf (eOp notInO (eOp ixO (eVar 0) (eVar 1)) (eVar 2)))) sNever sNx)
@[irreducible] def C_need_sign : CF := bodyF 4 B_need_sign
def B_name_at  : SF :=
  (sSeq (sExpr (eCallD C_need_sign (aCons (eVar 0) (aCons (eVar 1) (aCons (eC k_CAPITALS) (aCons (eVar 2) aNil))))))
    (sSeq (sSet 3 (eOp addO (eVar 1) (eC (.int 1))))
    (sSeq (sWhile (tAndF (tOf (eOp ltO (eVar 3) (eCall lenF (aCons (eVar 0) aNil)))) (tAndF (tOf (eOp ltO (eVar 3) (eOp addO (eVar 1) (eC k_MOST_IN_NAME)))) (tOf (eOp inO (eOp ixO (eVar 0) (eVar 3)) (eOp addO (eC k_CAPITALS) (eC (.str [95]))))))) (sAug 3 iaddO (eC (.int 1))))
    (sRet (eTup (aCons (eSl (eVar 0) (pSome (eVar 1)) (pSome (eVar 3))) (aCons (eVar 3) aNil)))))))
@[irreducible] def C_name_at : CF := bodyF 4 B_name_at
def B_head_at  : SF :=
  (sSeq (sExpr (eCallD C_need_sign (aCons (eVar 0) (aCons (eOp addO (eVar 1) (eC (.int 1))) (aCons (eC k_CURLY) (aCons (eVar 2) aNil))))))
    (sSeq (sAsg (.tp [3, 4]) (eCallD C_name_at (aCons (eVar 0) (aCons (eOp addO (eVar 1) (eC (.int 2))) (aCons (eVar 2) aNil)))))
    (sSeq (sExpr (eCallD C_need_sign (aCons (eVar 0) (aCons (eVar 4) (aCons (eOp addO (eOp addO (eC k_KINDS) (eC k_COLON)) (eC k_END)) (aCons (eVar 2) aNil))))))
    (sSeq (sIf (tOf (eOp eqO (eOp ixO (eVar 0) (eVar 4)) (eC k_END))) (sRet (eTup (aCons (eVar 3) (aCons (eC (.str [])) (aCons (eOp addO (eVar 4) (eC (.int 1))) aNil))))) sNx)
    (sSeq (sIf (tOf (eOp neO (eOp ixO (eVar 0) (eVar 4)) (eC k_COLON))) (sRet (eTup (aCons (eVar 3) (aCons (eOp ixO (eVar 0) (eVar 4)) (aCons (eOp addO (eVar 4) (eC (.int 1))) aNil))))) sNx)
    (sSeq (sExpr (eCallD C_need_sign (aCons (eVar 0) (aCons (eOp addO (eVar 4) (eC (.int 1))) (aCons (eC k_KINDS) (aCons (eVar 2) aNil))))))
    (sRet (eTup (aCons (eVar 3) (aCons (eOp addO (eC k_COLON) (eOp ixO (eVar 0) (eOp addO (eVar 4) (eC (.int 1))))) (aCons (eOp addO (eVar 4) (eC (.int 2))) aNil)))))))))))
@[irreducible] def C_head_at : CF := bodyF 5 B_head_at
def B_with_plain  : SF :=
  (sIf (tAndF (tOf (eOp neO (eVar 0) (eLst aNil))) (tOf (eIsi isStr (eOp ixO (eVar 0) (eNeg (eC (.int 1))))))) (sPut lputO (eOp addO (eOp ixO (eVar 0) (eNeg (eC (.int 1)))) (eVar 1)) (eVar 0) (eNeg (eC (.int 1)))) (sExpr (eM "list" appendM (eVar 0) (aCons (eVar 1) aNil))))
@[irreducible] def C_with_plain : CF := bodyF 2 B_with_plain
def B_text_at  : SF :=
  (sSeq (sPar 3 4 (aCons (eLst aNil) (aCons (eLst (aCons (eLst aNil) aNil)) aNil)))
    (sSeq (sWhile (tOf (eOp ltO (eVar 1) (eCall lenF (aCons (eVar 0) aNil)))) (sIf (tOf (eOp eqO (eOp ixO (eVar 0) (eVar 1)) (eC k_DOLLAR))) (sSeq (sAsg (.tp [5, 6, 1]) (eCallD C_head_at (aCons (eVar 0) (aCons (eVar 1) (aCons (eVar 2) aNil)))))
    (sIf (tOf (eOp eqO (eVar 6) (eC (.str [])))) (sExpr (eM "list" appendM (eOp ixO (eVar 4) (eNeg (eC (.int 1)))) (aCons (eTup (aCons (eVar 5) (aCons (eVar 6) (aCons (eTup aNil) aNil)))) aNil))) (sSeq (sExpr (eM "list" appendM (eVar 3) (aCons (eTup (aCons (eVar 5) (aCons (eVar 6) aNil))) aNil)))
    (sExpr (eM "list" appendM (eVar 4) (aCons (eLst aNil) aNil)))))) (sIf (tAndF (tOf (eOp eqO (eOp ixO (eVar 0) (eVar 1)) (eC k_END))) (tOf (eOp neO (eVar 3) (eLst aNil)))) (sSeq (sAsg (.tp [5, 6]) (eM "list" popM (eVar 3) aNil))
    (sSeq (sSet 7 (eCall tupleF (aCons (eM "list" popM (eVar 4) aNil) aNil)))
    (sSeq (sExpr (eM "list" appendM (eOp ixO (eVar 4) (eNeg (eC (.int 1)))) (aCons (eTup (aCons (eVar 5) (aCons (eVar 6) (aCons (eVar 7) aNil)))) aNil)))
    (sAug 1 iaddO (eC (.int 1)))))) (sSeq (sExpr (eCallD C_need_sign (aCons (eVar 0) (aCons (eVar 1) (aCons (eC k_PLAIN_SIGNS) (aCons (eVar 2) aNil))))))
    (sSeq (sExpr (eCallD C_with_plain (aCons (eOp ixO (eVar 4) (eNeg (eC (.int 1)))) (aCons (eOp ixO (eVar 0) (eVar 1)) aNil))))
    (sAug 1 iaddO (eC (.int 1))))))))
    (sSeq (sIf (tOf (eOp neO (eVar 3) (eLst aNil))) sNever sNx)
    (sRet (eCall tupleF (aCons (eOp ixO (eVar 4) (eC (.int 0))) aNil))))))
@[irreducible] def C_text_at : CF := bodyF 8 B_text_at
def B_word_at  : SF :=
  (sSeq (sFor (iEn (aCons (eOp addO (eVar 1) (eC k_BLANK)) aNil)) (.tp [3, 4]) (sExpr (eCallD C_need_sign (aCons (eVar 0) (aCons (eVar 3) (aCons (eVar 4) (aCons (eVar 2) aNil)))))))
    (sRet (eOp addO (eCall lenF (aCons (eVar 1) aNil)) (eC (.int 1)))))
@[irreducible] def C_word_at : CF := bodyF 5 B_word_at
def B_row_told  : SF :=
  (sSeq (sExpr (eCallD C_need_sign (aCons (eVar 0) (aCons (eC (.int 0)) (aCons (eOp addO (eOp addO (eC k_CAPITALS) (eOp ixO (eC k_DROP) (eC (.int 0)))) (eOp ixO (eC k_CHECK) (eC (.int 0)))) (aCons (eVar 1) aNil))))))
    (sSeq (sIf (tOf (eOp eqO (eOp ixO (eVar 0) (eC (.int 0))) (eOp ixO (eC k_CHECK) (eC (.int 0))))) (sRet (eTup (aCons (eC k_CHECK) (aCons (eCallD C_text_at (aCons (eVar 0) (aCons (eCallD C_word_at (aCons (eVar 0) (aCons (eC k_CHECK) (aCons (eVar 1) aNil)))) (aCons (eVar 1) aNil)))) aNil)))) sNx)
    (sSeq (sIf (tOf (eOp eqO (eOp ixO (eVar 0) (eC (.int 0))) (eOp ixO (eC k_DROP) (eC (.int 0))))) (sSeq (sAsg (.tp [2, 3]) (eCallD C_name_at (aCons (eVar 0) (aCons (eCallD C_word_at (aCons (eVar 0) (aCons (eC k_DROP) (aCons (eVar 1) aNil)))) (aCons (eVar 1) aNil)))))
    (sSeq (sIf (tOf (eOp ltO (eVar 3) (eCall lenF (aCons (eVar 0) aNil)))) sNever sNx)
    (sRet (eTup (aCons (eC k_DROP) (aCons (eVar 2) aNil)))))) sNx)
    (sSeq (sAsg (.tp [2, 3]) (eCallD C_name_at (aCons (eVar 0) (aCons (eC (.int 0)) (aCons (eVar 1) aNil)))))
    (sSeq (sExpr (eCallD C_need_sign (aCons (eVar 0) (aCons (eVar 3) (aCons (eOp addO (eC k_EQUALS) (eC k_ASKED)) (aCons (eVar 1) aNil))))))
    (sSeq (sIf (tOf (eOp eqO (eOp ixO (eVar 0) (eVar 3)) (eC k_EQUALS))) (sRet (eTup (aCons (eC k_SET) (aCons (eVar 2) (aCons (eCallD C_text_at (aCons (eVar 0) (aCons (eOp addO (eVar 3) (eC (.int 1))) (aCons (eVar 1) aNil)))) aNil))))) sNx)
    (sSeq (sExpr (eCallD C_need_sign (aCons (eVar 0) (aCons (eOp addO (eVar 3) (eC (.int 1))) (aCons (eC k_EQUALS) (aCons (eVar 1) aNil))))))
    (sRet (eTup (aCons (eC k_GIVE) (aCons (eVar 2) (aCons (eCallD C_text_at (aCons (eVar 0) (aCons (eOp addO (eVar 3) (eC (.int 2))) (aCons (eVar 1) aNil)))) aNil))))))))))))
@[irreducible] def C_row_told : CF := bodyF 4 B_row_told
def B_need_string  : SF :=
  (sIf (tNotF (tOf (eIsi isStr (eVar 0)))) sNever sNx)
@[irreducible] def C_need_string : CF := bodyF 1 B_need_string
def B_read_text  : SF :=
  (sSeq (sExpr (eCallD C_need_string (aCons (eVar 0) aNil)))
    (sSeq (sSet 1 (eCallD C_text_at (aCons (eVar 0) (aCons (eC (.int 0)) (aCons (eC (.int 0)) aNil)))))
    (sSeq (sIf (tNotF (tOf (eCallD C_is_text (aCons (eVar 1) aNil)))) sNever sNx)
    (sRet (eVar 1)))))
@[irreducible] def C_read_text : CF := bodyF 2 B_read_text
def B_read_file  : SF :=
  (sSeq (sExpr (eCallD C_need_string (aCons (eVar 0) aNil)))
    (sSeq (sSet 1 (eIf (tOf (eOp neO (eVar 0) (eC (.str [])))) (eM "str" splitM (eVar 0) (aCons (eC k_NEWLINE) aNil)) (eLst aNil)))
    (sRet (eCallD C_need_file (aCons (eCall tupleF (aCons (eLc (iEn (aCons (eVar 1) aNil)) (.tp [2, 3]) tYesF (eCallD C_row_told (aCons (eVar 3) (aCons (eVar 2) aNil))) [2, 3]) aNil)) aNil)))))
@[irreducible] def C_read_file : CF := bodyF 4 B_read_file
def B__law_mixed  : SF :=
  (sSeq (sSet 0 (eOp modO (eCall intF (aCons (eVar 0) aNil)) (eC (.int 2147483647))))
    (sRet (eOp modO (eOp mulO (eOp modO (eOp addO (eOp addO (eOp mulO (eVar 0) (eOp addO (eC (.int 48271)) (eOp mulO (eOp mulO (eC (.int 2)) (eVar 1)) (eVar 1)))) (eOp mulO (eC (.int 69621)) (eVar 1))) (eC (.int 11))) (eC (.int 2147483647))) (eC (.int 69621))) (eC (.int 2147483629)))))
@[irreducible] def C__law_mixed : CF := bodyF 2 B__law_mixed
def B__law_begin  : SF :=
  (sSeq (sSet 1 (eIf (tOf (eOp neO (eVar 0) (eLst aNil))) (eCall listF (aCons (eVar 0) aNil)) (eLst (aCons (eC (.int 0)) aNil))))
    (sRet (eDisp (qCons (eC (.str [99, 101, 108, 108, 115])) (eVar 1) (qCons (eC (.str [108, 101, 102, 116, 115])) (eLc (iVal (eVar 1)) (.nm 2) tYesF (eIf (tOf (eOp geO (eVar 2) (eOp powO (eC (.int 10)) (eC (.int 18))))) (eVar 2) (eC (.int 0))) [2]) (qCons (eC (.str [97, 116])) (eC (.int 0)) (qCons (eC (.str [114, 111, 111, 109])) (eC (.int 0)) qNil)))))))
@[irreducible] def C__law_begin : CF := bodyF 3 B__law_begin
def B__law_draw  : SF :=
  (sSeq (sSet 2 (eOp dixO (eVar 0) (eC (.str [97, 116]))))
    (sSeq (sPut putO (eOp addO (eVar 2) (eC (.int 1))) (eVar 0) (eC (.str [97, 116])))
    (sSeq (sSet 3 (eOp modO (eCall intF (aCons (eVar 2) aNil)) (eCall lenF (aCons (eOp dixO (eVar 0) (eC (.str [99, 101, 108, 108, 115]))) aNil))))
    (sSeq (sSet 4 (eOp ixO (eOp dixO (eVar 0) (eC (.str [108, 101, 102, 116, 115]))) (eVar 3)))
    (sSeq (sIf (tOf (eOp gtO (eVar 4) (eC (.int 0)))) (sSeq (sPut lputO (eOp fdivO (eVar 4) (eVar 1)) (eOp dixO (eVar 0) (eC (.str [108, 101, 102, 116, 115]))) (eVar 3))
    (sRet (eOp modO (eCall intF (aCons (eVar 4) aNil)) (eVar 1)))) sNx)
    (sSeq (sSet 5 (eCallD C__law_mixed (aCons (eCallD C__law_mixed (aCons (eOp ixO (eOp dixO (eVar 0) (eC (.str [99, 101, 108, 108, 115]))) (eVar 3)) (aCons (eVar 2) aNil))) (aCons (eOp addO (eC (.int 40)) (eVar 2)) aNil))))
    (sRet (eOp modO (eOp fdivO (eCall intF (aCons (eOp addO (eOp mulO (eVar 5) (eC (.int 2147483647))) (eCallD C__law_mixed (aCons (eVar 5) (aCons (eOp addO (eC (.int 7)) (eVar 2)) aNil)))) aNil)) (eC (.int 64))) (eVar 1)))))))))
@[irreducible] def C__law_draw : CF := bodyF 6 B__law_draw
def B__law_of  : SF :=
  (sRet (eOp ixO (eVar 1) (eCallD C__law_draw (aCons (eVar 0) (aCons (eCall lenF (aCons (eVar 1) aNil)) aNil)))))
@[irreducible] def C__law_of : CF := bodyF 2 B__law_of
def B__law_names  : SF :=
  (sSeq (sPar 3 4 (aCons (eLst (aCons (eC (.str [65])) (aCons (eC (.str [66])) (aCons (eC (.str [67])) (aCons (eC (.str [68, 95])) (aCons (eC (.str [68, 66])) (aCons (eC (.str [72, 79, 83, 84])) (aCons (eC (.str [88])) (aCons (eC (.str [89])) (aCons (eC (.str [90, 95, 90])) (aCons (eC (.str [65, 66, 67, 68, 69, 70, 71, 72])) aNil))))))))))) (aCons (eLst aNil) aNil)))
    (sSeq (sFor (iRange (aCons (eVar 1) aNil)) (.nm 2) (sExpr (eM "list" appendM (eVar 4) (aCons (eM "list" popM (eVar 3) (aCons (eCallD C__law_draw (aCons (eVar 0) (aCons (eCall lenF (aCons (eVar 3) aNil)) aNil))) aNil)) aNil))))
    (sRet (eCall sortedF (aCons (eVar 4) aNil)))))
@[irreducible] def C__law_names : CF := bodyF 5 B__law_names
def B__law_plain  : SF :=
  (sRet (eOp ixO (eLst (aCons (eC (.str [97])) (aCons (eC (.str [98])) (aCons (eC (.str [120])) (aCons (eC (.str [97, 98])) (aCons (eC (.str [97, 32, 98])) (aCons (eC (.str [48])) (aCons (eC (.str [45])) (aCons (eC (.str [61])) (aCons (eC (.str [58])) (aCons (eC (.str [46, 47])) (aCons (eC (.str [97, 61, 98])) (aCons (eC (.str [95, 58, 61, 44, 64, 45])) aNil))))))))))))) (eCallD C__law_draw (aCons (eVar 0) (aCons (eC (.int 12)) aNil)))))
@[irreducible] def C__law_plain : CF := bodyF 1 B__law_plain
def B__law_text (r__law_text : CF) : SF :=
  (sSeq (sSet 3 (eLst aNil))
    (sSeq (sFor (iRange (aCons (eCallD C__law_draw (aCons (eVar 0) (aCons (eOp ixO (eLst (aCons (eC (.int 2)) (aCons (eC (.int 3)) (aCons (eC (.int 3)) (aCons (eC (.int 4)) aNil))))) (eCallD C__law_draw (aCons (eVar 0) (aCons (eC (.int 4)) aNil)))) aNil))) aNil)) (.nm 4) (sSeq (sIf (tOrF (tOf (eOp eqO (eVar 2) (eC (.int 0)))) (tOf (eOp eqO (eCallD C__law_draw (aCons (eVar 0) (aCons (eC (.int 3)) aNil))) (eC (.int 0))))) (sSeq (sIf (tOrF (tOf (eOp eqO (eVar 3) (eLst aNil))) (tNotF (tOf (eIsi isStr (eOp ixO (eVar 3) (eNeg (eC (.int 1)))))))) (sExpr (eM "list" appendM (eVar 3) (aCons (eCallD C__law_plain (aCons (eVar 0) aNil)) aNil))) sNx)
    sCt) sNx)
    (sSeq (sSet 5 (eOp ixO (eVar 1) (eCallD C__law_draw (aCons (eVar 0) (aCons (eCall lenF (aCons (eVar 1) aNil)) aNil)))))
    (sSeq (sSet 6 (eOp ixO (eLst (aCons (eC (.str [])) (aCons (eC (.str [45])) (aCons (eC (.str [58, 45])) (aCons (eC (.str [43])) (aCons (eC (.str [58, 43])) (aCons (eC (.str [63])) (aCons (eC (.str [58, 63])) (aCons (eC (.str [61])) (aCons (eC (.str [58, 61])) (aCons (eC (.str [])) (aCons (eC (.str [58, 45])) (aCons (eC (.str [43])) aNil))))))))))))) (eCallD C__law_draw (aCons (eVar 0) (aCons (eC (.int 12)) aNil)))))
    (sExpr (eM "list" appendM (eVar 3) (aCons (eTup (aCons (eVar 5) (aCons (eVar 6) (aCons (eIf (tOf (eOp eqO (eVar 6) (eC (.str [])))) (eTup aNil) (eCallD r__law_text (aCons (eVar 0) (aCons (eVar 1) (aCons (eOp subO (eVar 2) (eC (.int 1))) aNil))))) aNil)))) aNil)))))))
    (sRet (eCall tupleF (aCons (eVar 3) aNil)))))
mutual
def C__law_text : Nat → CF
  | 0 => fun _ _ => .stuck
  | n + 1 => bodyF 7 (B__law_text (C__law_text n))
end
def B__law_row  : SF :=
  (sSeq (sPar 2 3 (aCons (eCallD C__law_draw (aCons (eVar 0) (aCons (eC (.int 8)) aNil))) (aCons (eOp ixO (eVar 1) (eCallD C__law_draw (aCons (eVar 0) (aCons (eCall lenF (aCons (eVar 1) aNil)) aNil)))) aNil)))
    (sSeq (sIf (tOf (eOp eqO (eVar 2) (eC (.int 0)))) (sRet (eTup (aCons (eC (.str [100, 114, 111, 112])) (aCons (eVar 3) aNil)))) sNx)
    (sSeq (sIf (tOf (eOp eqO (eVar 2) (eC (.int 1)))) (sRet (eTup (aCons (eC (.str [99, 104, 101, 99, 107])) (aCons (eCallD (C__law_text 8) (aCons (eVar 0) (aCons (eVar 1) (aCons (eC (.int 2)) aNil)))) aNil)))) sNx)
    (sRet (eTup (aCons (eOp ixO (eLst (aCons (eC (.str [115, 101, 116])) (aCons (eC (.str [103, 105, 118, 101])) aNil))) (eOp modO (eVar 2) (eC (.int 2)))) (aCons (eVar 3) (aCons (eCallD (C__law_text 8) (aCons (eVar 0) (aCons (eVar 1) (aCons (eC (.int 2)) aNil)))) aNil))))))))
@[irreducible] def C__law_row : CF := bodyF 4 B__law_row
def B__law_file  : SF :=
  (sRet (eCall tupleF (aCons (eLc (iRange (aCons (eCallD C__law_draw (aCons (eVar 0) (aCons (eOp addO (eVar 2) (eC (.int 1))) aNil))) aNil)) (.nm 3) tYesF (eCallD C__law_row (aCons (eVar 0) (aCons (eVar 1) aNil))) [3]) aNil)))
@[irreducible] def C__law_file : CF := bodyF 4 B__law_file
def B__law_written (r__law_written : CF) : SF :=
  (sSeq (sSet 1 (eC (.str [])))
    (sSeq (sFor (iVal (eVar 0)) (.nm 2) (sIf (tOf (eIsi isStr (eVar 2))) (sSet 1 (eOp addO (eVar 1) (eVar 2))) (sSet 1 (eOp addO (eOp addO (eOp addO (eOp addO (eOp addO (eOp addO (eVar 1) (eC (.str [36]))) (eC (.str [123]))) (eOp ixO (eVar 2) (eC (.int 0)))) (eOp ixO (eVar 2) (eC (.int 1)))) (eCallD r__law_written (aCons (eOp ixO (eVar 2) (eC (.int 2))) aNil))) (eC (.str [125]))))))
    (sRet (eVar 1))))
mutual
def C__law_written : Nat → CF
  | 0 => fun _ _ => .stuck
  | n + 1 => bodyF 3 (B__law_written (C__law_written n))
end
def B__law_row_written  : SF :=
  (sSeq (sIf (tOf (eOp eqO (eOp ixO (eVar 0) (eC (.int 0))) (eC (.str [100, 114, 111, 112])))) (sRet (eOp addO (eC (.str [100, 114, 111, 112, 32])) (eOp ixO (eVar 0) (eC (.int 1))))) sNx)
    (sSeq (sIf (tOf (eOp eqO (eOp ixO (eVar 0) (eC (.int 0))) (eC (.str [99, 104, 101, 99, 107])))) (sRet (eOp addO (eC (.str [99, 104, 101, 99, 107, 32])) (eCallD (C__law_written 8) (aCons (eOp ixO (eVar 0) (eC (.int 1))) aNil)))) sNx)
    (sRet (eOp addO (eOp addO (eOp ixO (eVar 0) (eC (.int 1))) (eIf (tOf (eOp eqO (eOp ixO (eVar 0) (eC (.int 0))) (eC (.str [115, 101, 116])))) (eC (.str [61])) (eC (.str [63, 61])))) (eCallD (C__law_written 8) (aCons (eOp ixO (eVar 0) (eC (.int 2))) aNil))))))
@[irreducible] def C__law_row_written : CF := bodyF 1 B__law_row_written
def B__law_edge  : SF :=
  (sSeq (sSet 1 (eC (.str [97, 98, 99, 100, 101, 102, 103, 104, 105, 106, 107, 108, 109, 110, 111, 112, 113, 114, 115, 116, 117, 118, 119, 120, 121, 122, 48, 49, 50, 51, 52, 53, 54, 55, 56, 57, 32, 95, 46, 47, 58, 61, 44, 64, 45])))
    (sSeq (sSet 2 (eLst (aCons (eC (.str [])) (aCons (eC (.str [45])) (aCons (eC (.str [58, 45])) (aCons (eC (.str [43])) (aCons (eC (.str [58, 43])) (aCons (eC (.str [63])) (aCons (eC (.str [58, 63])) (aCons (eC (.str [61])) (aCons (eC (.str [58, 61])) aNil)))))))))))
    (sSeq (sSet 3 (eLst aNil))
    (sSeq (sFor (iRange (aCons (eC (.int 8)) aNil)) (.nm 4) (sSeq (sPar 6 7 (aCons (eCallD C__law_of (aCons (eVar 0) (aCons (eVar 2) aNil))) (aCons (eCallD C__law_of (aCons (eVar 0) (aCons (eLst (aCons (eC (.str [65])) (aCons (eC (.str [90, 95])) (aCons (eC (.str [65, 66, 67, 68, 69, 70, 71, 72])) (aCons (eC (.str [88, 95, 89, 95, 90, 95, 65, 95])) aNil))))) aNil))) aNil)))
    (sIf (tOrF (tAndF (tOf (eOp gtO (eVar 4) (eC (.int 0)))) (tOf (eIsi isStr (eOp ixO (eVar 3) (eNeg (eC (.int 1))))))) (tOf (eOp gtO (eCallD C__law_draw (aCons (eVar 0) (aCons (eC (.int 3)) aNil))) (eC (.int 0))))) (sExpr (eM "list" appendM (eVar 3) (aCons (eTup (aCons (eVar 7) (aCons (eVar 6) (aCons (eTup aNil) aNil)))) aNil))) (sExpr (eM "list" appendM (eVar 3) (aCons (eM "str" joinM (eC (.str [])) (aCons (eLc (iRange (aCons (eC (.int 20)) aNil)) (.nm 8) tYesF (eOp ixO (eVar 1) (eCallD C__law_draw (aCons (eVar 0) (aCons (eC (.int 45)) aNil)))) [8]) aNil)) aNil))))))
    (sSeq (sSet 5 (eTup (aCons (eC (.str [101, 110, 100])) aNil)))
    (sSeq (sFor (iRange (aCons (eC (.int 3)) aNil)) (.nm 4) (sSet 5 (eTup (aCons (eTup (aCons (eCallD C__law_of (aCons (eVar 0) (aCons (eLst (aCons (eC (.str [78])) (aCons (eC (.str [79, 95, 79])) aNil))) aNil))) (aCons (eCallD C__law_of (aCons (eVar 0) (aCons (eSl (eVar 2) (pSome (eC (.int 1))) pNone) aNil))) (aCons (eVar 5) aNil)))) (aCons (eC (.str [58, 45])) aNil)))))
    (sRet (eTup (aCons (eCall tupleF (aCons (eVar 3) aNil)) (aCons (eVar 5) aNil))))))))))
@[irreducible] def C__law_edge : CF := bodyF 9 B__law_edge
def B__law_text_right  : SF :=
  (sSeq (sSet 1 (eCallD (C__law_written 8) (aCons (eVar 0) aNil)))
    (sRet (eAnd (eOp eqO (eCallD C_text_of (aCons (eVar 0) aNil)) (eVar 1)) (eOp eqO (eCall reprF (aCons (eCallD C_read_text (aCons (eVar 1) aNil)) aNil)) (eCall reprF (aCons (eVar 0) aNil))))))
@[irreducible] def C__law_text_right : CF := bodyF 2 B__law_text_right
def B__law_file_right  : SF :=
  (sSeq (sSet 1 (eM "str" joinM (eC (.str [10])) (aCons (eLc (iVal (eVar 0)) (.nm 2) tYesF (eCallD C__law_row_written (aCons (eVar 2) aNil)) [2]) aNil)))
    (sRet (eAnd (eOp eqO (eCallD C_file_text (aCons (eVar 0) aNil)) (eVar 1)) (eOp eqO (eCall reprF (aCons (eCallD C_read_file (aCons (eVar 1) aNil)) aNil)) (eCall reprF (aCons (eVar 0) aNil))))))
@[irreducible] def C__law_file_right : CF := bodyF 3 B__law_file_right
def B_law  : SF :=
  (sSeq (sSet 1 (eCallD C__law_begin (aCons (eVar 0) aNil)))
    (sSeq (sSet 2 (eTup (aCons (eTup (aCons (eC (.str [115, 101, 116])) (aCons (eC (.str [76, 65, 83, 84])) (aCons (eTup (aCons (eC (.str [120])) aNil)) aNil)))) aNil)))
    (sSeq (sFor (iRange (aCons (eOp addO (eC (.int 3)) (eCall minF (aCons (eC (.int 4)) (aCons (eCall lenF (aCons (eVar 0) aNil)) aNil)))) aNil)) (.nm 3) (sSeq (sSet 5 (eCallD C__law_names (aCons (eVar 1) (aCons (eOp addO (eC (.int 1)) (eCallD C__law_draw (aCons (eVar 1) (aCons (eC (.int 6)) aNil)))) aNil))))
    (sSeq (sSet 6 (eCallD C__law_file (aCons (eVar 1) (aCons (eVar 5) (aCons (eOp ixO (eLst (aCons (eC (.int 40)) (aCons (eC (.int 6)) aNil))) (eCallD C__law_draw (aCons (eVar 1) (aCons (eC (.int 2)) aNil)))) aNil)))))
    (sSeq (sAsg (.tp [9, 10]) (eCallD C__law_edge (aCons (eVar 1) aNil)))
    (sSeq (sFor (iVal (eTup (aCons (eVar 9) (aCons (eVar 10) (aCons (eCallD (C__law_text 8) (aCons (eVar 1) (aCons (eVar 5) (aCons (eC (.int 3)) aNil)))) (aCons (eTup aNil) aNil)))))) (.nm 7) (sIf (tNotF (tOf (eCallD C__law_text_right (aCons (eVar 7) aNil)))) (sRet (eC (.bl false))) sNx))
    (sSeq (sSet 8 (eTup (aCons (eTup (aCons (eC (.str [115, 101, 116])) (aCons (eC (.str [65])) (aCons (eVar 9) aNil)))) (aCons (eTup (aCons (eC (.str [103, 105, 118, 101])) (aCons (eC (.str [66])) (aCons (eVar 10) aNil)))) aNil))))
    (sSeq (sFor (iVal (eTup (aCons (eVar 6) (aCons (eVar 8) (aCons (eTup (aCons (eTup (aCons (eC (.str [99, 104, 101, 99, 107])) (aCons (eVar 10) aNil))) (aCons (eTup (aCons (eC (.str [100, 114, 111, 112])) (aCons (eC (.str [88, 95, 89])) aNil))) (aCons (eTup (aCons (eC (.str [99, 104, 101, 99, 107])) (aCons (eTup aNil) aNil))) aNil)))) aNil))))) (.nm 4) (sIf (tNotF (tOf (eCallD C__law_file_right (aCons (eVar 4) aNil)))) (sRet (eC (.bl false))) sNx))
    (sSeq (sIf (tAndF (tOf (eOp neO (eVar 2) (eVar 6))) (tOf (eOp eqO (eCallD C_file_text (aCons (eVar 2) aNil)) (eCallD C_file_text (aCons (eVar 6) aNil))))) (sRet (eC (.bl false))) sNx)
    (sSet 2 (eVar 6))))))))))
    (sSeq (sSet 4 (eTup (aCons (eTup (aCons (eC (.str [115, 101, 116])) (aCons (eC (.str [66])) (aCons (eTup (aCons (eTup (aCons (eC (.str [65])) (aCons (eC (.str [58, 45])) (aCons (eTup (aCons (eC (.str [120])) aNil)) aNil)))) (aCons (eC (.str [47])) aNil))) aNil)))) (aCons (eTup (aCons (eC (.str [103, 105, 118, 101])) (aCons (eC (.str [65])) (aCons (eTup aNil) aNil)))) (aCons (eTup (aCons (eC (.str [100, 114, 111, 112])) (aCons (eC (.str [65])) aNil))) (aCons (eTup (aCons (eC (.str [99, 104, 101, 99, 107])) (aCons (eTup (aCons (eC (.str [97, 61, 98])) aNil)) aNil))) aNil))))))
    (sSeq (sIf (tOrF (tOf (eOp neO (eCallD C_file_text (aCons (eVar 4) aNil)) (eOp addO (eC (.str [66, 61, 36])) (eC (.str [123, 65, 58, 45, 120, 125, 47, 10, 65, 63, 61, 10, 100, 114, 111, 112, 32, 65, 10, 99, 104, 101, 99, 107, 32, 97, 61, 98]))))) (tOrF (tOf (eOp neO (eCallD C_file_text (aCons (eTup aNil) aNil)) (eC (.str [])))) (tOf (eOp neO (eCallD C_text_of (aCons (eTup aNil) aNil)) (eC (.str [])))))) (sRet (eC (.bl false))) sNx)
    (sRet (eAnd (eOp eqO (eCallD C_read_file (aCons (eC (.str [])) aNil)) (eTup aNil)) (eAnd (eOp eqO (eCallD C_read_text (aCons (eC (.str [])) aNil)) (eTup aNil)) (eOp eqO (eCallD C_read_file (aCons (eC (.str [65, 61, 120, 61, 121])) aNil)) (eTup (aCons (eTup (aCons (eC (.str [115, 101, 116])) (aCons (eC (.str [65])) (aCons (eTup (aCons (eC (.str [120, 61, 121])) aNil)) aNil)))) aNil)))))))))))
@[irreducible] def C_law : CF := bodyF 11 B_law
end LK06

set_option Elab.async false
set_option linter.all false
set_option maxRecDepth 100000
set_option maxHeartbeats 4000000
/-! the walk; printed by gen.py -/
namespace LK06
open PySem PySem.Spec PyProof.Rows L2 Al
def topS (i : Nat) : Stmt := PySem.Challenge.pw_envrows_k06_whole_written_forms_there_an.main.body.getD i (.Pass ⟨0, 0, 0, 0⟩)
abbrev st_is_name : Stmt := topS 19
abbrev N_is_name : List Str := ["thing", "sign"]
theorem sc_is_name : FnScope N_is_name ["thing"] (defScope st_is_name) := ⟨rfl, rfl, rfl, by decide +kernel, rfl, by decide +kernel, by decide +kernel⟩
abbrev st_is_plain : Stmt := topS 20
abbrev N_is_plain : List Str := ["thing", "sign"]
theorem sc_is_plain : FnScope N_is_plain ["thing"] (defScope st_is_plain) := ⟨rfl, rfl, rfl, by decide +kernel, rfl, by decide +kernel, by decide +kernel⟩
abbrev st_is_part : Stmt := topS 21
abbrev N_is_part : List Str := ["thing", "levels"]
theorem sc_is_part : FnScope N_is_part ["thing", "levels"] (defScope st_is_part) := ⟨rfl, rfl, rfl, by decide +kernel, rfl, by decide +kernel, by decide +kernel⟩
abbrev st_is_text_of : Stmt := topS 22
abbrev N_is_text_of : List Str := ["thing", "levels", "at", "piece"]
theorem sc_is_text_of : FnScope N_is_text_of ["thing", "levels"] (defScope st_is_text_of) := ⟨rfl, rfl, rfl, by decide +kernel, rfl, by decide +kernel, by decide +kernel⟩
abbrev st_is_text : Stmt := topS 23
abbrev N_is_text : List Str := ["thing"]
theorem sc_is_text : FnScope N_is_text ["thing"] (defScope st_is_text) := ⟨rfl, rfl, rfl, by decide +kernel, rfl, by decide +kernel, by decide +kernel⟩
abbrev st_is_row : Stmt := topS 24
abbrev N_is_row : List Str := ["thing"]
theorem sc_is_row : FnScope N_is_row ["thing"] (defScope st_is_row) := ⟨rfl, rfl, rfl, by decide +kernel, rfl, by decide +kernel, by decide +kernel⟩
abbrev st_text_of_row : Stmt := topS 25
abbrev N_text_of_row : List Str := ["row"]
theorem sc_text_of_row : FnScope N_text_of_row ["row"] (defScope st_text_of_row) := ⟨rfl, rfl, rfl, by decide +kernel, rfl, by decide +kernel, by decide +kernel⟩
abbrev st_names_in_text : Stmt := topS 26
abbrev N_names_in_text : List Str := ["text", "found", "piece"]
theorem sc_names_in_text : FnScope N_names_in_text ["text"] (defScope st_names_in_text) := ⟨rfl, rfl, rfl, by decide +kernel, rfl, by decide +kernel, by decide +kernel⟩
abbrev st_names_in : Stmt := topS 27
abbrev N_names_in : List Str := ["rows", "found", "row"]
theorem sc_names_in : FnScope N_names_in ["rows"] (defScope st_names_in) := ⟨rfl, rfl, rfl, by decide +kernel, rfl, by decide +kernel, by decide +kernel⟩
abbrev st_need_file : Stmt := topS 28
abbrev N_need_file : List Str := ["thing", "number", "row"]
theorem sc_need_file : FnScope N_need_file ["thing"] (defScope st_need_file) := ⟨rfl, rfl, rfl, by decide +kernel, rfl, by decide +kernel, by decide +kernel⟩
abbrev st_written : Stmt := topS 41
abbrev N_written : List Str := ["text", "found", "piece"]
theorem sc_written : FnScope N_written ["text"] (defScope st_written) := ⟨rfl, rfl, rfl, by decide +kernel, rfl, by decide +kernel, by decide +kernel⟩
abbrev st_text_of : Stmt := topS 42
abbrev N_text_of : List Str := ["text"]
theorem sc_text_of : FnScope N_text_of ["text"] (defScope st_text_of) := ⟨rfl, rfl, rfl, by decide +kernel, rfl, by decide +kernel, by decide +kernel⟩
abbrev st_row_text : Stmt := topS 43
abbrev N_row_text : List Str := ["row"]
theorem sc_row_text : FnScope N_row_text ["row"] (defScope st_row_text) := ⟨rfl, rfl, rfl, by decide +kernel, rfl, by decide +kernel, by decide +kernel⟩
abbrev st_file_text : Stmt := topS 44
abbrev N_file_text : List Str := ["file", "row"]
theorem sc_file_text : FnScope N_file_text ["file"] (defScope st_file_text) := ⟨rfl, rfl, rfl, by decide +kernel, rfl, by decide +kernel, by decide +kernel⟩
abbrev st_need_sign : Stmt := topS 45
abbrev N_need_sign : List Str := ["line", "at", "signs", "row"]
theorem sc_need_sign : FnScope N_need_sign ["line", "at", "signs", "row"] (defScope st_need_sign) := ⟨rfl, rfl, rfl, by decide +kernel, rfl, by decide +kernel, by decide +kernel⟩
abbrev st_name_at : Stmt := topS 46
abbrev N_name_at : List Str := ["line", "at", "row", "end"]
theorem sc_name_at : FnScope N_name_at ["line", "at", "row"] (defScope st_name_at) := ⟨rfl, rfl, rfl, by decide +kernel, rfl, by decide +kernel, by decide +kernel⟩
abbrev st_head_at : Stmt := topS 47
abbrev N_head_at : List Str := ["line", "at", "row", "name", "place"]
theorem sc_head_at : FnScope N_head_at ["line", "at", "row"] (defScope st_head_at) := ⟨rfl, rfl, rfl, by decide +kernel, rfl, by decide +kernel, by decide +kernel⟩
abbrev st_with_plain : Stmt := topS 48
abbrev N_with_plain : List Str := ["pieces", "sign"]
theorem sc_with_plain : FnScope N_with_plain ["pieces", "sign"] (defScope st_with_plain) := ⟨rfl, rfl, rfl, by decide +kernel, rfl, by decide +kernel, by decide +kernel⟩
abbrev st_text_at : Stmt := topS 49
abbrev N_text_at : List Str := ["line", "at", "row", "heads", "stack", "name", "sign", "own"]
theorem sc_text_at : FnScope N_text_at ["line", "at", "row"] (defScope st_text_at) := ⟨rfl, rfl, rfl, by decide +kernel, rfl, by decide +kernel, by decide +kernel⟩
abbrev st_word_at : Stmt := topS 50
abbrev N_word_at : List Str := ["line", "word", "row", "at", "sign"]
theorem sc_word_at : FnScope N_word_at ["line", "word", "row"] (defScope st_word_at) := ⟨rfl, rfl, rfl, by decide +kernel, rfl, by decide +kernel, by decide +kernel⟩
abbrev st_row_told : Stmt := topS 51
abbrev N_row_told : List Str := ["line", "row", "name", "at"]
theorem sc_row_told : FnScope N_row_told ["line", "row"] (defScope st_row_told) := ⟨rfl, rfl, rfl, by decide +kernel, rfl, by decide +kernel, by decide +kernel⟩
abbrev st_need_string : Stmt := topS 52
abbrev N_need_string : List Str := ["thing"]
theorem sc_need_string : FnScope N_need_string ["thing"] (defScope st_need_string) := ⟨rfl, rfl, rfl, by decide +kernel, rfl, by decide +kernel, by decide +kernel⟩
abbrev st_read_text : Stmt := topS 53
abbrev N_read_text : List Str := ["string", "found"]
theorem sc_read_text : FnScope N_read_text ["string"] (defScope st_read_text) := ⟨rfl, rfl, rfl, by decide +kernel, rfl, by decide +kernel, by decide +kernel⟩
abbrev st_read_file : Stmt := topS 54
abbrev N_read_file : List Str := ["string", "lines", "number", "line"]
theorem sc_read_file : FnScope N_read_file ["string"] (defScope st_read_file) := ⟨rfl, rfl, rfl, by decide +kernel, rfl, by decide +kernel, by decide +kernel⟩
abbrev st__law_mixed : Stmt := topS 56
abbrev N__law_mixed : List Str := ["cell", "k"]
theorem sc__law_mixed : FnScope N__law_mixed ["cell", "k"] (defScope st__law_mixed) := ⟨rfl, rfl, rfl, by decide +kernel, rfl, by decide +kernel, by decide +kernel⟩
abbrev st__law_begin : Stmt := topS 57
abbrev N__law_begin : List Str := ["script", "cells", "cell"]
theorem sc__law_begin : FnScope N__law_begin ["script"] (defScope st__law_begin) := ⟨rfl, rfl, rfl, by decide +kernel, rfl, by decide +kernel, by decide +kernel⟩
abbrev st__law_draw : Stmt := topS 58
abbrev N__law_draw : List Str := ["state", "many", "at", "place", "left", "number"]
theorem sc__law_draw : FnScope N__law_draw ["state", "many"] (defScope st__law_draw) := ⟨rfl, rfl, rfl, by decide +kernel, rfl, by decide +kernel, by decide +kernel⟩
abbrev st__law_of : Stmt := topS 59
abbrev N__law_of : List Str := ["state", "some"]
theorem sc__law_of : FnScope N__law_of ["state", "some"] (defScope st__law_of) := ⟨rfl, rfl, rfl, by decide +kernel, rfl, by decide +kernel, by decide +kernel⟩
abbrev st__law_names : Stmt := topS 60
abbrev N__law_names : List Str := ["state", "many", "k", "some", "found"]
theorem sc__law_names : FnScope N__law_names ["state", "many"] (defScope st__law_names) := ⟨rfl, rfl, rfl, by decide +kernel, rfl, by decide +kernel, by decide +kernel⟩
abbrev st__law_plain : Stmt := topS 61
abbrev N__law_plain : List Str := ["state"]
theorem sc__law_plain : FnScope N__law_plain ["state"] (defScope st__law_plain) := ⟨rfl, rfl, rfl, by decide +kernel, rfl, by decide +kernel, by decide +kernel⟩
abbrev st__law_text : Stmt := topS 62
abbrev N__law_text : List Str := ["state", "names", "deep", "found", "k", "name", "sign"]
theorem sc__law_text : FnScope N__law_text ["state", "names", "deep"] (defScope st__law_text) := ⟨rfl, rfl, rfl, by decide +kernel, rfl, by decide +kernel, by decide +kernel⟩
abbrev st__law_row : Stmt := topS 63
abbrev N__law_row : List Str := ["state", "names", "way", "name"]
theorem sc__law_row : FnScope N__law_row ["state", "names"] (defScope st__law_row) := ⟨rfl, rfl, rfl, by decide +kernel, rfl, by decide +kernel, by decide +kernel⟩
abbrev st__law_file : Stmt := topS 64
abbrev N__law_file : List Str := ["state", "names", "most", "k"]
theorem sc__law_file : FnScope N__law_file ["state", "names", "most"] (defScope st__law_file) := ⟨rfl, rfl, rfl, by decide +kernel, rfl, by decide +kernel, by decide +kernel⟩
abbrev st__law_written : Stmt := topS 65
abbrev N__law_written : List Str := ["text", "found", "piece"]
theorem sc__law_written : FnScope N__law_written ["text"] (defScope st__law_written) := ⟨rfl, rfl, rfl, by decide +kernel, rfl, by decide +kernel, by decide +kernel⟩
abbrev st__law_row_written : Stmt := topS 66
abbrev N__law_row_written : List Str := ["row"]
theorem sc__law_row_written : FnScope N__law_row_written ["row"] (defScope st__law_row_written) := ⟨rfl, rfl, rfl, by decide +kernel, rfl, by decide +kernel, by decide +kernel⟩
abbrev st__law_edge : Stmt := topS 67
abbrev N__law_edge : List Str := ["state", "plain", "signs", "found", "k", "deep", "sign", "name", "turn"]
theorem sc__law_edge : FnScope N__law_edge ["state"] (defScope st__law_edge) := ⟨rfl, rfl, rfl, by decide +kernel, rfl, by decide +kernel, by decide +kernel⟩
abbrev st__law_text_right : Stmt := topS 68
abbrev N__law_text_right : List Str := ["text", "due"]
theorem sc__law_text_right : FnScope N__law_text_right ["text"] (defScope st__law_text_right) := ⟨rfl, rfl, rfl, by decide +kernel, rfl, by decide +kernel, by decide +kernel⟩
abbrev st__law_file_right : Stmt := topS 69
abbrev N__law_file_right : List Str := ["rows", "due", "row"]
theorem sc__law_file_right : FnScope N__law_file_right ["rows"] (defScope st__law_file_right) := ⟨rfl, rfl, rfl, by decide +kernel, rfl, by decide +kernel, by decide +kernel⟩
abbrev st_law : Stmt := topS 70
abbrev N_law : List Str := ["script", "state", "last", "turn", "file", "names", "rows", "text", "more", "wide", "deep"]
theorem sc_law : FnScope N_law ["script"] (defScope st_law) := ⟨rfl, rfl, rfl, by decide +kernel, rfl, by decide +kernel, by decide +kernel⟩
structure Facts (K : PySem.W.Frag) (mg : Str → Option Value) : Prop where
  c_ASKED : Cn K mg "ASKED" k_ASKED
  c_BEGIN : Cn K mg "BEGIN" k_BEGIN
  c_BLANK : Cn K mg "BLANK" k_BLANK
  c_CAPITALS : Cn K mg "CAPITALS" k_CAPITALS
  c_CHECK : Cn K mg "CHECK" k_CHECK
  c_COLON : Cn K mg "COLON" k_COLON
  c_CURLY : Cn K mg "CURLY" k_CURLY
  c_DOLLAR : Cn K mg "DOLLAR" k_DOLLAR
  c_DROP : Cn K mg "DROP" k_DROP
  c_END : Cn K mg "END" k_END
  c_EQUALS : Cn K mg "EQUALS" k_EQUALS
  c_GIVE : Cn K mg "GIVE" k_GIVE
  c_GIVEN : Cn K mg "GIVEN" k_GIVEN
  c_KINDS : Cn K mg "KINDS" k_KINDS
  c_MOST_IN_NAME : Cn K mg "MOST_IN_NAME" k_MOST_IN_NAME
  c_MOST_LEVELS : Cn K mg "MOST_LEVELS" k_MOST_LEVELS
  c_MOST_NAMES : Cn K mg "MOST_NAMES" k_MOST_NAMES
  c_MOST_PIECES : Cn K mg "MOST_PIECES" k_MOST_PIECES
  c_MOST_PLAIN : Cn K mg "MOST_PLAIN" k_MOST_PLAIN
  c_MOST_ROWS : Cn K mg "MOST_ROWS" k_MOST_ROWS
  c_NEWLINE : Cn K mg "NEWLINE" k_NEWLINE
  c_PLAIN_SIGNS : Cn K mg "PLAIN_SIGNS" k_PLAIN_SIGNS
  c_SET : Cn K mg "SET" k_SET
  c_SIGNS : Cn K mg "SIGNS" k_SIGNS
  n_all : mg "all" = none
  n_enumerate : mg "enumerate" = none
  n_int : mg "int" = none
  n_isinstance : mg "isinstance" = none
  n_len : mg "len" = none
  n_list : mg "list" = none
  n_min : mg "min" = none
  n_range : mg "range" = none
  n_repr : mg "repr" = none
  n_set : mg "set" = none
  n_sorted : mg "sorted" = none
  n_str : mg "str" = none
  n_tuple : mg "tuple" = none
  d_is_name : Df K mg "is_name" st_is_name ["thing"]
  d_is_plain : Df K mg "is_plain" st_is_plain ["thing"]
  d_is_part : Df K mg "is_part" st_is_part ["thing", "levels"]
  d_is_text_of : Df K mg "is_text_of" st_is_text_of ["thing", "levels"]
  d_is_text : Df K mg "is_text" st_is_text ["thing"]
  d_is_row : Df K mg "is_row" st_is_row ["thing"]
  d_text_of_row : Df K mg "text_of_row" st_text_of_row ["row"]
  d_names_in_text : Df K mg "names_in_text" st_names_in_text ["text"]
  d_names_in : Df K mg "names_in" st_names_in ["rows"]
  d_need_file : Df K mg "need_file" st_need_file ["thing"]
  d_written : Df K mg "written" st_written ["text"]
  d_text_of : Df K mg "text_of" st_text_of ["text"]
  d_row_text : Df K mg "row_text" st_row_text ["row"]
  d_file_text : Df K mg "file_text" st_file_text ["file"]
  d_need_sign : Df K mg "need_sign" st_need_sign ["line", "at", "signs", "row"]
  d_name_at : Df K mg "name_at" st_name_at ["line", "at", "row"]
  d_head_at : Df K mg "head_at" st_head_at ["line", "at", "row"]
  d_with_plain : Df K mg "with_plain" st_with_plain ["pieces", "sign"]
  d_text_at : Df K mg "text_at" st_text_at ["line", "at", "row"]
  d_word_at : Df K mg "word_at" st_word_at ["line", "word", "row"]
  d_row_told : Df K mg "row_told" st_row_told ["line", "row"]
  d_need_string : Df K mg "need_string" st_need_string ["thing"]
  d_read_text : Df K mg "read_text" st_read_text ["string"]
  d_read_file : Df K mg "read_file" st_read_file ["string"]
  d__law_mixed : Df K mg "_law_mixed" st__law_mixed ["cell", "k"]
  d__law_begin : Df K mg "_law_begin" st__law_begin ["script"]
  d__law_draw : Df K mg "_law_draw" st__law_draw ["state", "many"]
  d__law_of : Df K mg "_law_of" st__law_of ["state", "some"]
  d__law_names : Df K mg "_law_names" st__law_names ["state", "many"]
  d__law_plain : Df K mg "_law_plain" st__law_plain ["state"]
  d__law_text : Df K mg "_law_text" st__law_text ["state", "names", "deep"]
  d__law_row : Df K mg "_law_row" st__law_row ["state", "names"]
  d__law_file : Df K mg "_law_file" st__law_file ["state", "names", "most"]
  d__law_written : Df K mg "_law_written" st__law_written ["text"]
  d__law_row_written : Df K mg "_law_row_written" st__law_row_written ["row"]
  d__law_edge : Df K mg "_law_edge" st__law_edge ["state"]
  d__law_text_right : Df K mg "_law_text_right" st__law_text_right ["text"]
  d__law_file_right : Df K mg "_law_file_right" st__law_file_right ["rows"]
  d_law : Df K mg "law" st_law ["script"]
section
variable {P : Program} {w : World} {K : PySem.W.Frag} {mg : Str → Option Value} {base : Heap}
theorem ok_is_name (Fx : Facts K mg) : OkF P w K mg base 1 "is_name" ["thing"] C_is_name := by
  unfold C_is_name
  have hN := sc_is_name.nd
  refine ok_def (k := 0) (N := N_is_name) (ps := ["thing"]) (st := st_is_name) (x := "is_name") (B := B_is_name) Fx.d_is_name sc_is_name fun f cdv A outer s H E hr hx hp => ?_
  exact (ass_cons (as_if (AW.at (aw_or (at_not (at_val (ae_isi isT_str (ae_var 0) Fx.n_isinstance Fx.n_str bt_str))) (aw_or1 (at_not (at_chain op_leA op_leA ae_int (ae_callB call_lenA Fx.n_len bt_len (aa_cons (ae_var 0) aa_nil)) (ae_cst Fx.c_MOST_IN_NAME)))))) (ass_one (as_ret ae_bl)) ass_nil)
    (ass_one (as_ret (ae_and (ae_cmp (op_neA hr.rm.units) (ae_ix (ae_var 0) ae_int) (ae_str [95])) (ae_and1 (ae_callB (call_allA rfl) Fx.n_all bt_all (aa_cons (ae_lc [("sign", 1)] rfl hN (ai_val (ae_var 0)) (by exact blk_ok (N := N_is_name) (sc := defScope st_is_name) rfl (by decide +kernel) (by decide +kernel) (by decide +kernel) (by decide +kernel)) (by decide) (fun _ _ _ _ _ => (ag_nm 1 hN)) (fun _ _ _ _ _ => ats_nil) (fun _ _ _ _ _ => (ae_cmp op_inA (ae_var 1) (ae_op op_addA (ae_cst Fx.c_CAPITALS) (ae_str [95]))))) aa_nil)))))))
theorem ok_is_plain (Fx : Facts K mg) : OkF P w K mg base 1 "is_plain" ["thing"] C_is_plain := by
  unfold C_is_plain
  have hN := sc_is_plain.nd
  refine ok_def (k := 0) (N := N_is_plain) (ps := ["thing"]) (st := st_is_plain) (x := "is_plain") (B := B_is_plain) Fx.d_is_plain sc_is_plain fun f cdv A outer s H E hr hx hp => ?_
  exact (ass_cons (as_if (AW.at (aw_or (at_not (at_val (ae_isi isT_str (ae_var 0) Fx.n_isinstance Fx.n_str bt_str))) (aw_or1 (at_not (at_chain op_leA op_leA ae_int (ae_callB call_lenA Fx.n_len bt_len (aa_cons (ae_var 0) aa_nil)) (ae_cst Fx.c_MOST_PLAIN)))))) (ass_one (as_ret ae_bl)) ass_nil)
    (ass_one (as_ret (ae_callB (call_allA rfl) Fx.n_all bt_all (aa_cons (ae_lc [("sign", 1)] rfl hN (ai_val (ae_var 0)) (by exact blk_ok (N := N_is_plain) (sc := defScope st_is_plain) rfl (by decide +kernel) (by decide +kernel) (by decide +kernel) (by decide +kernel)) (by decide) (fun _ _ _ _ _ => (ag_nm 1 hN)) (fun _ _ _ _ _ => ats_nil) (fun _ _ _ _ _ => (ae_cmp op_inA (ae_var 1) (ae_cst Fx.c_PLAIN_SIGNS)))) aa_nil)))))
theorem okg_is_part (Fx : Facts K mg) : ∀ n : Nat, OkF P w K mg base (1 + n) "is_part" ["thing", "levels"] (C_is_part n) ∧ OkF P w K mg base (1 + n) "is_text_of" ["thing", "levels"] (C_is_text_of n)
  | 0 => ⟨ok_zero Fx.d_is_part, ok_zero Fx.d_is_text_of⟩
  | n + 1 => by
    obtain ⟨ok_is_part_, ok_is_text_of_⟩ := okg_is_part Fx n
    have ok_is_name_ := (ok_is_name Fx : OkF P w K mg base 1 "is_name" _ _).mono (show 1 ≤ 1 + n by omega)
    have ok_is_plain_ := (ok_is_plain Fx : OkF P w K mg base 1 "is_plain" _ _).mono (show 1 ≤ 1 + n by omega)
    refine ⟨?_, ?_⟩
    · have hN := sc_is_part.nd
      refine ok_def (k := 1 + n) (N := N_is_part) (ps := ["thing", "levels"]) (st := st_is_part) (x := "is_part") (B := B_is_part (C_is_part n) (C_is_text_of n)) Fx.d_is_part sc_is_part fun f cdv A outer s H E hr hx hp => ?_
      exact (ass_cons (as_if (AW.at (aw_or (at_not (at_val (ae_isi isT_tup (ae_var 0) Fx.n_isinstance Fx.n_tuple bt_tuple))) (aw_or (at_cmp (op_neA hr.rm.units) (ae_callB call_lenA Fx.n_len bt_len (aa_cons (ae_var 0) aa_nil)) ae_int) (aw_or1 (at_not (at_val (ae_callO (ok_is_name_) hr hx (aa_cons (ae_ix (ae_var 0) ae_int) aa_nil) (len_cons len_nil)))))))) (ass_one (as_ret ae_bl)) ass_nil)
    (ass_cons (as_if (AW.at (aw_or (at_not (at_val (ae_isi isT_str (ae_ix (ae_var 0) ae_int) Fx.n_isinstance Fx.n_str bt_str))) (aw_or1 (at_cmp op_notInA (ae_ix (ae_var 0) ae_int) (ae_cst Fx.c_SIGNS))))) (ass_one (as_ret ae_bl)) ass_nil)
    (ass_cons (as_if (at_cmp (op_eqA hr.rm.units) (ae_ix (ae_var 0) ae_int) (ae_str [])) (ass_one (as_ret (ae_and (ae_isi isT_tup (ae_ix (ae_var 0) ae_int) Fx.n_isinstance Fx.n_tuple bt_tuple) (ae_and1 (ae_cmp (op_eqA hr.rm.units) (ae_callB call_lenA Fx.n_len bt_len (aa_cons (ae_ix (ae_var 0) ae_int) aa_nil)) ae_int))))) ass_nil)
    (ass_one (as_ret (ae_and (ae_cmp op_gtA (ae_var 1) ae_int) (ae_and1 (ae_callO (ok_is_text_of_) hr hx (aa_cons (ae_ix (ae_var 0) ae_int) (aa_cons (ae_var 1) aa_nil)) (len_cons (len_cons len_nil))))))))))
    · have hN := sc_is_text_of.nd
      refine ok_def (k := 1 + n) (N := N_is_text_of) (ps := ["thing", "levels"]) (st := st_is_text_of) (x := "is_text_of") (B := B_is_text_of (C_is_part n) (C_is_text_of n)) Fx.d_is_text_of sc_is_text_of fun f cdv A outer s H E hr hx hp => ?_
      exact (ass_cons (as_if (AW.at (aw_or (at_not (at_val (ae_isi isT_tup (ae_var 0) Fx.n_isinstance Fx.n_tuple bt_tuple))) (aw_or1 (at_cmp op_gtA (ae_callB call_lenA Fx.n_len bt_len (aa_cons (ae_var 0) aa_nil)) (ae_cst Fx.c_MOST_PIECES))))) (ass_one (as_ret ae_bl)) ass_nil)
    (ass_cons (as_for hp rfl (ai_enum (aa_cons (ae_var 0) aa_nil) Fx.n_enumerate) (ag_tp (is := [2, 3]) rfl (pgs_cons (pg_name (i := 2) hN rfl (by first | exact .inl rfl | exact .inr rfl) (by first | exact .inl rfl | exact .inr rfl)) (pgs_cons (pg_name (i := 3) hN rfl (by first | exact .inl rfl | exact .inr rfl) (by first | exact .inl rfl | exact .inr rfl)) pgs_nil))) (ass_cons (as_if (AW.at (aw_and (at_not (at_val (ae_callO (ok_is_plain_) hr hx (aa_cons (ae_var 3) aa_nil) (len_cons len_nil)))) (aw_and1 (at_not (at_val (ae_callO (ok_is_part_) hr hx (aa_cons (ae_var 3) (aa_cons (ae_op op_subA (ae_var 1) ae_int) aa_nil)) (len_cons (len_cons len_nil)))))))) (ass_one (as_ret ae_bl)) ass_nil)
    (ass_one (as_if (AW.at (aw_and (at_cmp op_gtA (ae_var 2) ae_int) (aw_and (at_val (ae_isi isT_str (ae_var 3) Fx.n_isinstance Fx.n_str bt_str)) (aw_and1 (at_val (ae_isi isT_str (ae_ix (ae_var 0) (ae_op op_subA (ae_var 2) ae_int)) Fx.n_isinstance Fx.n_str bt_str)))))) (ass_one (as_ret ae_bl)) ass_nil))))
    (ass_one (as_ret ae_bl))))
theorem ok_is_part (Fx : Facts K mg) (n : Nat) : OkF P w K mg base (1 + n) "is_part" ["thing", "levels"] (C_is_part n) := (okg_is_part Fx n).1
theorem ok_is_text_of (Fx : Facts K mg) (n : Nat) : OkF P w K mg base (1 + n) "is_text_of" ["thing", "levels"] (C_is_text_of n) := (okg_is_part Fx n).2
theorem ok_is_text (Fx : Facts K mg) : OkF P w K mg base 10 "is_text" ["thing"] C_is_text := by
  unfold C_is_text
  have ok_is_text_of_ := (ok_is_text_of Fx 8 : OkF P w K mg base 9 "is_text_of" _ _).mono (show 9 ≤ 9 by decide)
  have hN := sc_is_text.nd
  refine ok_def (k := 9) (N := N_is_text) (ps := ["thing"]) (st := st_is_text) (x := "is_text") (B := B_is_text) Fx.d_is_text sc_is_text fun f cdv A outer s H E hr hx hp => ?_
  exact (ass_one (as_ret (ae_callO (ok_is_text_of_) hr hx (aa_cons (ae_var 0) (aa_cons (ae_cst Fx.c_MOST_LEVELS) aa_nil)) (len_cons (len_cons len_nil)))))
theorem ok_is_row (Fx : Facts K mg) : OkF P w K mg base 11 "is_row" ["thing"] C_is_row := by
  unfold C_is_row
  have ok_is_name_ := (ok_is_name Fx : OkF P w K mg base 1 "is_name" _ _).mono (show 1 ≤ 10 by decide)
  have ok_is_text_ := (ok_is_text Fx : OkF P w K mg base 10 "is_text" _ _).mono (show 10 ≤ 10 by decide)
  have hN := sc_is_row.nd
  refine ok_def (k := 10) (N := N_is_row) (ps := ["thing"]) (st := st_is_row) (x := "is_row") (B := B_is_row) Fx.d_is_row sc_is_row fun f cdv A outer s H E hr hx hp => ?_
  exact (ass_cons (as_if (AW.at (aw_or (at_not (at_val (ae_isi isT_tup (ae_var 0) Fx.n_isinstance Fx.n_tuple bt_tuple))) (aw_or (at_cmp (op_eqA hr.rm.units) (ae_callB call_lenA Fx.n_len bt_len (aa_cons (ae_var 0) aa_nil)) ae_int) (aw_or1 (at_not (at_val (ae_isi isT_str (ae_ix (ae_var 0) ae_int) Fx.n_isinstance Fx.n_str bt_str))))))) (ass_one (as_ret ae_bl)) ass_nil)
    (ass_cons (as_if (at_cmp op_inA (ae_ix (ae_var 0) ae_int) (ae_tup (aa_cons (ae_cst Fx.c_SET) (aa_cons (ae_cst Fx.c_GIVE) aa_nil)))) (ass_one (as_ret (ae_and (ae_cmp (op_eqA hr.rm.units) (ae_callB call_lenA Fx.n_len bt_len (aa_cons (ae_var 0) aa_nil)) ae_int) (ae_and (ae_callO (ok_is_name_) hr hx (aa_cons (ae_ix (ae_var 0) ae_int) aa_nil) (len_cons len_nil)) (ae_and1 (ae_callO (ok_is_text_) hr hx (aa_cons (ae_ix (ae_var 0) ae_int) aa_nil) (len_cons len_nil))))))) ass_nil)
    (ass_cons (as_if (at_cmp (op_eqA hr.rm.units) (ae_ix (ae_var 0) ae_int) (ae_cst Fx.c_DROP)) (ass_one (as_ret (ae_and (ae_cmp (op_eqA hr.rm.units) (ae_callB call_lenA Fx.n_len bt_len (aa_cons (ae_var 0) aa_nil)) ae_int) (ae_and1 (ae_callO (ok_is_name_) hr hx (aa_cons (ae_ix (ae_var 0) ae_int) aa_nil) (len_cons len_nil)))))) ass_nil)
    (ass_one (as_ret (ae_and (ae_cmp (op_eqA hr.rm.units) (ae_ix (ae_var 0) ae_int) (ae_cst Fx.c_CHECK)) (ae_and (ae_cmp (op_eqA hr.rm.units) (ae_callB call_lenA Fx.n_len bt_len (aa_cons (ae_var 0) aa_nil)) ae_int) (ae_and1 (ae_callO (ok_is_text_) hr hx (aa_cons (ae_ix (ae_var 0) ae_int) aa_nil) (len_cons len_nil))))))))))
theorem ok_text_of_row (Fx : Facts K mg) : OkF P w K mg base 1 "text_of_row" ["row"] C_text_of_row := by
  unfold C_text_of_row
  have hN := sc_text_of_row.nd
  refine ok_def (k := 0) (N := N_text_of_row) (ps := ["row"]) (st := st_text_of_row) (x := "text_of_row") (B := B_text_of_row) Fx.d_text_of_row sc_text_of_row fun f cdv A outer s H E hr hx hp => ?_
  exact (ass_one (as_ret (ae_if (at_cmp (op_eqA hr.rm.units) (ae_ix (ae_var 0) ae_int) (ae_cst Fx.c_DROP)) (ae_tup aa_nil) (ae_ix (ae_var 0) (ae_neg ae_int)))))
theorem okg_names_in_text (Fx : Facts K mg) : ∀ n : Nat, OkF P w K mg base (0 + n) "names_in_text" ["text"] (C_names_in_text n)
  | 0 => ok_zero Fx.d_names_in_text
  | n + 1 => by
    have ok_names_in_text_ := okg_names_in_text Fx n
    refine ?_
    · have hN := sc_names_in_text.nd
      refine ok_def (k := 0 + n) (N := N_names_in_text) (ps := ["text"]) (st := st_names_in_text) (x := "names_in_text") (B := B_names_in_text (C_names_in_text n)) Fx.d_names_in_text sc_names_in_text fun f cdv A outer s H E hr hx hp => ?_
      exact (ass_cons (as_set 1 hN (ae_lst aa_nil))
    (ass_cons (as_for hp rfl (ai_val (ae_var 0)) (ag_nm 2 hN) (ass_one (as_if (at_val (ae_isi isT_tup (ae_var 2) Fx.n_isinstance Fx.n_tuple bt_tuple)) (ass_cons (as_expr (ae_m PySem.F.plainAttrs_list PySem.F.slot_list_append PySem.F.type_list_append mt_appendA (ae_var 1) (aa_cons (ae_ix (ae_var 2) ae_int) aa_nil)))
    (ass_one (as_expr (ae_m PySem.F.plainAttrs_list PySem.F.slot_list_extend PySem.F.type_list_extend mt_extendA (ae_var 1) (aa_cons (ae_callO (ok_names_in_text_) hr hx (aa_cons (ae_ix (ae_var 2) ae_int) aa_nil) (len_cons len_nil)) aa_nil))))) ass_nil)))
    (ass_one (as_ret (ae_var 1)))))
theorem ok_names_in_text (Fx : Facts K mg) (n : Nat) : OkF P w K mg base (0 + n) "names_in_text" ["text"] (C_names_in_text n) := (okg_names_in_text Fx n)
theorem ok_names_in (Fx : Facts K mg) : OkF P w K mg base 9 "names_in" ["rows"] C_names_in := by
  unfold C_names_in
  have ok_text_of_row_ := (ok_text_of_row Fx : OkF P w K mg base 1 "text_of_row" _ _).mono (show 1 ≤ 8 by decide)
  have ok_names_in_text_ := (ok_names_in_text Fx 8 : OkF P w K mg base 8 "names_in_text" _ _).mono (show 8 ≤ 8 by decide)
  have hN := sc_names_in.nd
  refine ok_def (k := 8) (N := N_names_in) (ps := ["rows"]) (st := st_names_in) (x := "names_in") (B := B_names_in) Fx.d_names_in sc_names_in fun f cdv A outer s H E hr hx hp => ?_
  exact (ass_cons (as_setLc 1 [("row", 2)] rfl hN (sw_true rfl rfl rfl rfl) (ai_val (ae_var 0)) (by exact blk_ok (N := N_names_in) (sc := defScope st_names_in) rfl (by decide +kernel) (by decide +kernel) (by decide +kernel) (by decide +kernel)) (by decide) (fun _ _ _ _ _ => (ag_nm 2 hN)) (fun _ _ _ _ _ => (ats_one (at_cmp (op_neA hr.rm.units) (ae_ix (ae_var 2) ae_int) (ae_cst Fx.c_CHECK)))) (fun _ _ _ _ _ => (ae_ix (ae_var 2) ae_int)))
    (ass_cons (as_for hp rfl (ai_val (ae_var 0)) (ag_nm 2 hN) (ass_one (as_expr (ae_m PySem.F.plainAttrs_list PySem.F.slot_list_extend PySem.F.type_list_extend mt_extendA (ae_var 1) (aa_cons (ae_callO (ok_names_in_text_) hr hx (aa_cons (ae_callO (ok_text_of_row_) hr hx (aa_cons (ae_var 2) aa_nil) (len_cons len_nil)) aa_nil) (len_cons len_nil)) aa_nil)))))
    (ass_one (as_ret (ae_sortSet rfl Fx.n_sorted Fx.n_set (ae_var 1) bt_sorted bt_set)))))
theorem ok_need_file (Fx : Facts K mg) : OkF P w K mg base 12 "need_file" ["thing"] C_need_file := by
  unfold C_need_file
  have ok_is_row_ := (ok_is_row Fx : OkF P w K mg base 11 "is_row" _ _).mono (show 11 ≤ 11 by decide)
  have ok_names_in_ := (ok_names_in Fx : OkF P w K mg base 9 "names_in" _ _).mono (show 9 ≤ 11 by decide)
  have hN := sc_need_file.nd
  refine ok_def (k := 11) (N := N_need_file) (ps := ["thing"]) (st := st_need_file) (x := "need_file") (B := B_need_file) Fx.d_need_file sc_need_file fun f cdv A outer s H E hr hx hp => ?_
  exact (ass_cons (as_if (AW.at (aw_or (at_not (at_val (ae_isi isT_tup (ae_var 0) Fx.n_isinstance Fx.n_tuple bt_tuple))) (aw_or1 (at_cmp op_gtA (ae_callB call_lenA Fx.n_len bt_len (aa_cons (ae_var 0) aa_nil)) (ae_cst Fx.c_MOST_ROWS))))) (ass_one as_never) ass_nil)
    (ass_cons (as_for hp rfl (ai_enum (aa_cons (ae_var 0) aa_nil) Fx.n_enumerate) (ag_tp (is := [1, 2]) rfl (pgs_cons (pg_name (i := 1) hN rfl (by first | exact .inl rfl | exact .inr rfl) (by first | exact .inl rfl | exact .inr rfl)) (pgs_cons (pg_name (i := 2) hN rfl (by first | exact .inl rfl | exact .inr rfl) (by first | exact .inl rfl | exact .inr rfl)) pgs_nil))) (ass_one (as_if (at_not (at_val (ae_callO (ok_is_row_) hr hx (aa_cons (ae_var 2) aa_nil) (len_cons len_nil)))) (ass_one as_never) ass_nil)))
    (ass_cons (as_if (at_cmp op_gtA (ae_callB call_lenA Fx.n_len bt_len (aa_cons (ae_callO (ok_names_in_) hr hx (aa_cons (ae_var 0) aa_nil) (len_cons len_nil)) aa_nil)) (ae_cst Fx.c_MOST_NAMES)) (ass_one as_never) ass_nil)
    (ass_one (as_ret (ae_var 0))))))
theorem okg_written (Fx : Facts K mg) : ∀ n : Nat, OkF P w K mg base (0 + n) "written" ["text"] (C_written n)
  | 0 => ok_zero Fx.d_written
  | n + 1 => by
    have ok_written_ := okg_written Fx n
    refine ?_
    · have hN := sc_written.nd
      refine ok_def (k := 0 + n) (N := N_written) (ps := ["text"]) (st := st_written) (x := "written") (B := B_written (C_written n)) Fx.d_written sc_written fun f cdv A outer s H E hr hx hp => ?_
      exact (ass_cons (as_set 1 hN (ae_lst aa_nil))
    (ass_cons (as_for hp rfl (ai_val (ae_var 0)) (ag_nm 2 hN) (ass_one (as_if (at_val (ae_isi isT_str (ae_var 2) Fx.n_isinstance Fx.n_str bt_str)) (ass_one (as_expr (ae_m PySem.F.plainAttrs_list PySem.F.slot_list_append PySem.F.type_list_append mt_appendA (ae_var 1) (aa_cons (ae_var 2) aa_nil)))) (ass_one (as_expr (ae_m PySem.F.plainAttrs_list PySem.F.slot_list_append PySem.F.type_list_append mt_appendA (ae_var 1) (aa_cons (ae_op op_addA (ae_op op_addA (ae_op op_addA (ae_op op_addA (ae_cst Fx.c_BEGIN) (ae_ix (ae_var 2) ae_int)) (ae_ix (ae_var 2) ae_int)) (ae_callO (ok_written_) hr hx (aa_cons (ae_ix (ae_var 2) ae_int) aa_nil) (len_cons len_nil))) (ae_cst Fx.c_END)) aa_nil)))))))
    (ass_one (as_ret (ae_m PySem.F.plainAttrs_str PySem.F.slot_str_join PySem.F.type_str_join mt_joinA (ae_str []) (aa_cons (ae_var 1) aa_nil))))))
theorem ok_written (Fx : Facts K mg) (n : Nat) : OkF P w K mg base (0 + n) "written" ["text"] (C_written n) := (okg_written Fx n)
theorem ok_text_of (Fx : Facts K mg) : OkF P w K mg base 11 "text_of" ["text"] C_text_of := by
  unfold C_text_of
  have ok_is_text_ := (ok_is_text Fx : OkF P w K mg base 10 "is_text" _ _).mono (show 10 ≤ 10 by decide)
  have ok_written_ := (ok_written Fx 8 : OkF P w K mg base 8 "written" _ _).mono (show 8 ≤ 10 by decide)
  have hN := sc_text_of.nd
  refine ok_def (k := 10) (N := N_text_of) (ps := ["text"]) (st := st_text_of) (x := "text_of") (B := B_text_of) Fx.d_text_of sc_text_of fun f cdv A outer s H E hr hx hp => ?_
  exact (ass_cons (as_if (at_not (at_val (ae_callO (ok_is_text_) hr hx (aa_cons (ae_var 0) aa_nil) (len_cons len_nil)))) (ass_one as_never) ass_nil)
    (ass_one (as_ret (ae_callO (ok_written_) hr hx (aa_cons (ae_var 0) aa_nil) (len_cons len_nil)))))
theorem ok_row_text (Fx : Facts K mg) : OkF P w K mg base 9 "row_text" ["row"] C_row_text := by
  unfold C_row_text
  have ok_written_ := (ok_written Fx 8 : OkF P w K mg base 8 "written" _ _).mono (show 8 ≤ 8 by decide)
  have hN := sc_row_text.nd
  refine ok_def (k := 8) (N := N_row_text) (ps := ["row"]) (st := st_row_text) (x := "row_text") (B := B_row_text) Fx.d_row_text sc_row_text fun f cdv A outer s H E hr hx hp => ?_
  exact (ass_cons (as_if (at_cmp (op_eqA hr.rm.units) (ae_ix (ae_var 0) ae_int) (ae_cst Fx.c_DROP)) (ass_one (as_ret (ae_op op_addA (ae_op op_addA (ae_cst Fx.c_DROP) (ae_cst Fx.c_BLANK)) (ae_ix (ae_var 0) ae_int)))) ass_nil)
    (ass_cons (as_if (at_cmp (op_eqA hr.rm.units) (ae_ix (ae_var 0) ae_int) (ae_cst Fx.c_CHECK)) (ass_one (as_ret (ae_op op_addA (ae_op op_addA (ae_cst Fx.c_CHECK) (ae_cst Fx.c_BLANK)) (ae_callO (ok_written_) hr hx (aa_cons (ae_ix (ae_var 0) ae_int) aa_nil) (len_cons len_nil))))) ass_nil)
    (ass_one (as_ret (ae_op op_addA (ae_op op_addA (ae_ix (ae_var 0) ae_int) (ae_if (at_cmp (op_eqA hr.rm.units) (ae_ix (ae_var 0) ae_int) (ae_cst Fx.c_SET)) (ae_cst Fx.c_EQUALS) (ae_cst Fx.c_GIVEN))) (ae_callO (ok_written_) hr hx (aa_cons (ae_ix (ae_var 0) ae_int) aa_nil) (len_cons len_nil)))))))
theorem ok_file_text (Fx : Facts K mg) : OkF P w K mg base 13 "file_text" ["file"] C_file_text := by
  unfold C_file_text
  have ok_need_file_ := (ok_need_file Fx : OkF P w K mg base 12 "need_file" _ _).mono (show 12 ≤ 12 by decide)
  have ok_row_text_ := (ok_row_text Fx : OkF P w K mg base 9 "row_text" _ _).mono (show 9 ≤ 12 by decide)
  have hN := sc_file_text.nd
  refine ok_def (k := 12) (N := N_file_text) (ps := ["file"]) (st := st_file_text) (x := "file_text") (B := B_file_text) Fx.d_file_text sc_file_text fun f cdv A outer s H E hr hx hp => ?_
  exact (ass_one (as_ret (ae_m PySem.F.plainAttrs_str PySem.F.slot_str_join PySem.F.type_str_join mt_joinA (ae_cst Fx.c_NEWLINE) (aa_cons (ae_lc [("row", 1)] rfl hN (ai_val (ae_callO (ok_need_file_) hr hx (aa_cons (ae_var 0) aa_nil) (len_cons len_nil))) (by exact blk_ok (N := N_file_text) (sc := defScope st_file_text) rfl (by decide +kernel) (by decide +kernel) (by decide +kernel) (by decide +kernel)) (by decide) (fun _ _ _ _ _ => (ag_nm 1 hN)) (fun _ _ _ _ _ => ats_nil) (fun _ _ _ _ _ => (ae_callO (ok_row_text_) hr psd0 (aa_cons (ae_var 1) aa_nil) (len_cons len_nil)))) aa_nil))))
theorem ok_need_sign (Fx : Facts K mg) : OkF P w K mg base 1 "need_sign" ["line", "at", "signs", "row"] C_need_sign := by
  unfold C_need_sign
  have hN := sc_need_sign.nd
  refine ok_def (k := 0) (N := N_need_sign) (ps := ["line", "at", "signs", "row"]) (st := st_need_sign) (x := "need_sign") (B := B_need_sign) Fx.d_need_sign sc_need_sign fun f cdv A outer s H E hr hx hp => ?_
  exact (ass_one (as_if (AW.at (aw_or (at_cmp op_geA (ae_var 1) (ae_callB call_lenA Fx.n_len bt_len (aa_cons (ae_var 0) aa_nil))) (aw_or1 (at_cmp op_notInA (ae_ix (ae_var 0) (ae_var 1)) (ae_var 2))))) (ass_one as_never) ass_nil))
theorem ok_name_at (Fx : Facts K mg) : OkF P w K mg base 2 "name_at" ["line", "at", "row"] C_name_at := by
  unfold C_name_at
  have ok_need_sign_ := (ok_need_sign Fx : OkF P w K mg base 1 "need_sign" _ _).mono (show 1 ≤ 1 by decide)
  have hN := sc_name_at.nd
  refine ok_def (k := 1) (N := N_name_at) (ps := ["line", "at", "row"]) (st := st_name_at) (x := "name_at") (B := B_name_at) Fx.d_name_at sc_name_at fun f cdv A outer s H E hr hx hp => ?_
  exact (ass_cons (as_expr (ae_callO (ok_need_sign_) hr hx (aa_cons (ae_var 0) (aa_cons (ae_var 1) (aa_cons (ae_cst Fx.c_CAPITALS) (aa_cons (ae_var 2) aa_nil)))) (len_cons (len_cons (len_cons (len_cons len_nil))))))
    (ass_cons (as_set 3 hN (ae_op op_addA (ae_var 1) ae_int))
    (ass_cons (as_while hp (AW.at (aw_and (at_cmp op_ltA (ae_var 3) (ae_callB call_lenA Fx.n_len bt_len (aa_cons (ae_var 0) aa_nil))) (aw_and (at_cmp op_ltA (ae_var 3) (ae_op op_addA (ae_var 1) (ae_cst Fx.c_MOST_IN_NAME))) (aw_and1 (at_cmp op_inA (ae_ix (ae_var 0) (ae_var 3)) (ae_op op_addA (ae_cst Fx.c_CAPITALS) (ae_str [95]))))))) (ass_one (as_aug 3 hN op_iaddA ae_int)))
    (ass_one (as_ret (ae_tup (aa_cons (ae_sl (ae_var 0) (ao_some (ae_var 1)) (ao_some (ae_var 3))) (aa_cons (ae_var 3) aa_nil))))))))
theorem ok_head_at (Fx : Facts K mg) : OkF P w K mg base 3 "head_at" ["line", "at", "row"] C_head_at := by
  unfold C_head_at
  have ok_need_sign_ := (ok_need_sign Fx : OkF P w K mg base 1 "need_sign" _ _).mono (show 1 ≤ 2 by decide)
  have ok_name_at_ := (ok_name_at Fx : OkF P w K mg base 2 "name_at" _ _).mono (show 2 ≤ 2 by decide)
  have hN := sc_head_at.nd
  refine ok_def (k := 2) (N := N_head_at) (ps := ["line", "at", "row"]) (st := st_head_at) (x := "head_at") (B := B_head_at) Fx.d_head_at sc_head_at fun f cdv A outer s H E hr hx hp => ?_
  exact (ass_cons (as_expr (ae_callO (ok_need_sign_) hr hx (aa_cons (ae_var 0) (aa_cons (ae_op op_addA (ae_var 1) ae_int) (aa_cons (ae_cst Fx.c_CURLY) (aa_cons (ae_var 2) aa_nil)))) (len_cons (len_cons (len_cons (len_cons len_nil))))))
    (ass_cons (as_asg (ae_callO (ok_name_at_) hr hx (aa_cons (ae_var 0) (aa_cons (ae_op op_addA (ae_var 1) ae_int) (aa_cons (ae_var 2) aa_nil))) (len_cons (len_cons (len_cons len_nil)))) (ag_tp (is := [3, 4]) rfl (pgs_cons (pg_name (i := 3) hN rfl (by first | exact .inl rfl | exact .inr rfl) (by first | exact .inl rfl | exact .inr rfl)) (pgs_cons (pg_name (i := 4) hN rfl (by first | exact .inl rfl | exact .inr rfl) (by first | exact .inl rfl | exact .inr rfl)) pgs_nil))))
    (ass_cons (as_expr (ae_callO (ok_need_sign_) hr hx (aa_cons (ae_var 0) (aa_cons (ae_var 4) (aa_cons (ae_op op_addA (ae_op op_addA (ae_cst Fx.c_KINDS) (ae_cst Fx.c_COLON)) (ae_cst Fx.c_END)) (aa_cons (ae_var 2) aa_nil)))) (len_cons (len_cons (len_cons (len_cons len_nil))))))
    (ass_cons (as_if (at_cmp (op_eqA hr.rm.units) (ae_ix (ae_var 0) (ae_var 4)) (ae_cst Fx.c_END)) (ass_one (as_ret (ae_tup (aa_cons (ae_var 3) (aa_cons (ae_str []) (aa_cons (ae_op op_addA (ae_var 4) ae_int) aa_nil)))))) ass_nil)
    (ass_cons (as_if (at_cmp (op_neA hr.rm.units) (ae_ix (ae_var 0) (ae_var 4)) (ae_cst Fx.c_COLON)) (ass_one (as_ret (ae_tup (aa_cons (ae_var 3) (aa_cons (ae_ix (ae_var 0) (ae_var 4)) (aa_cons (ae_op op_addA (ae_var 4) ae_int) aa_nil)))))) ass_nil)
    (ass_cons (as_expr (ae_callO (ok_need_sign_) hr hx (aa_cons (ae_var 0) (aa_cons (ae_op op_addA (ae_var 4) ae_int) (aa_cons (ae_cst Fx.c_KINDS) (aa_cons (ae_var 2) aa_nil)))) (len_cons (len_cons (len_cons (len_cons len_nil))))))
    (ass_one (as_ret (ae_tup (aa_cons (ae_var 3) (aa_cons (ae_op op_addA (ae_cst Fx.c_COLON) (ae_ix (ae_var 0) (ae_op op_addA (ae_var 4) ae_int))) (aa_cons (ae_op op_addA (ae_var 4) ae_int) aa_nil))))))))))))
theorem ok_with_plain (Fx : Facts K mg) : OkF P w K mg base 1 "with_plain" ["pieces", "sign"] C_with_plain := by
  unfold C_with_plain
  have hN := sc_with_plain.nd
  refine ok_def (k := 0) (N := N_with_plain) (ps := ["pieces", "sign"]) (st := st_with_plain) (x := "with_plain") (B := B_with_plain) Fx.d_with_plain sc_with_plain fun f cdv A outer s H E hr hx hp => ?_
  exact (ass_one (as_if (AW.at (aw_and (at_cmp (op_neA hr.rm.units) (ae_var 0) (ae_lst aa_nil)) (aw_and1 (at_val (ae_isi isT_str (ae_ix (ae_var 0) (ae_neg ae_int)) Fx.n_isinstance Fx.n_str bt_str))))) (ass_one (as_lput (ae_var 0) (ae_neg ae_int) (ae_op op_addA (ae_ix (ae_var 0) (ae_neg ae_int)) (ae_var 1)))) (ass_one (as_expr (ae_m PySem.F.plainAttrs_list PySem.F.slot_list_append PySem.F.type_list_append mt_appendA (ae_var 0) (aa_cons (ae_var 1) aa_nil))))))
theorem ok_text_at (Fx : Facts K mg) : OkF P w K mg base 4 "text_at" ["line", "at", "row"] C_text_at := by
  unfold C_text_at
  have ok_head_at_ := (ok_head_at Fx : OkF P w K mg base 3 "head_at" _ _).mono (show 3 ≤ 3 by decide)
  have ok_need_sign_ := (ok_need_sign Fx : OkF P w K mg base 1 "need_sign" _ _).mono (show 1 ≤ 3 by decide)
  have ok_with_plain_ := (ok_with_plain Fx : OkF P w K mg base 1 "with_plain" _ _).mono (show 1 ≤ 3 by decide)
  have hN := sc_text_at.nd
  refine ok_def (k := 3) (N := N_text_at) (ps := ["line", "at", "row"]) (st := st_text_at) (x := "text_at") (B := B_text_at) Fx.d_text_at sc_text_at fun f cdv A outer s H E hr hx hp => ?_
  exact (ass_cons (as_par (i := 3) (j := 4) rfl hN (aa_cons (ae_lst aa_nil) (aa_cons (ae_lst (aa_cons (ae_lst aa_nil) aa_nil)) aa_nil)))
    (ass_cons (as_while hp (at_cmp op_ltA (ae_var 1) (ae_callB call_lenA Fx.n_len bt_len (aa_cons (ae_var 0) aa_nil))) (ass_one (as_if (at_cmp (op_eqA hr.rm.units) (ae_ix (ae_var 0) (ae_var 1)) (ae_cst Fx.c_DOLLAR)) (ass_cons (as_asg (ae_callO (ok_head_at_) hr hx (aa_cons (ae_var 0) (aa_cons (ae_var 1) (aa_cons (ae_var 2) aa_nil))) (len_cons (len_cons (len_cons len_nil)))) (ag_tp (is := [5, 6, 1]) rfl (pgs_cons (pg_name (i := 5) hN rfl (by first | exact .inl rfl | exact .inr rfl) (by first | exact .inl rfl | exact .inr rfl)) (pgs_cons (pg_name (i := 6) hN rfl (by first | exact .inl rfl | exact .inr rfl) (by first | exact .inl rfl | exact .inr rfl)) (pgs_cons (pg_name (i := 1) hN rfl (by first | exact .inl rfl | exact .inr rfl) (by first | exact .inl rfl | exact .inr rfl)) pgs_nil)))))
    (ass_one (as_if (at_cmp (op_eqA hr.rm.units) (ae_var 6) (ae_str [])) (ass_one (as_expr (ae_m PySem.F.plainAttrs_list PySem.F.slot_list_append PySem.F.type_list_append mt_appendA (ae_ix (ae_var 4) (ae_neg ae_int)) (aa_cons (ae_tup (aa_cons (ae_var 5) (aa_cons (ae_var 6) (aa_cons (ae_tup aa_nil) aa_nil)))) aa_nil)))) (ass_cons (as_expr (ae_m PySem.F.plainAttrs_list PySem.F.slot_list_append PySem.F.type_list_append mt_appendA (ae_var 3) (aa_cons (ae_tup (aa_cons (ae_var 5) (aa_cons (ae_var 6) aa_nil))) aa_nil)))
    (ass_one (as_expr (ae_m PySem.F.plainAttrs_list PySem.F.slot_list_append PySem.F.type_list_append mt_appendA (ae_var 4) (aa_cons (ae_lst aa_nil) aa_nil)))))))) (ass_one (as_if (AW.at (aw_and (at_cmp (op_eqA hr.rm.units) (ae_ix (ae_var 0) (ae_var 1)) (ae_cst Fx.c_END)) (aw_and1 (at_cmp (op_neA hr.rm.units) (ae_var 3) (ae_lst aa_nil))))) (ass_cons (as_asg (ae_m0 PySem.F.plainAttrs_list PySem.F.slot_list_pop PySem.F.type_list_pop mt_popA (ae_var 3)) (ag_tp (is := [5, 6]) rfl (pgs_cons (pg_name (i := 5) hN rfl (by first | exact .inl rfl | exact .inr rfl) (by first | exact .inl rfl | exact .inr rfl)) (pgs_cons (pg_name (i := 6) hN rfl (by first | exact .inl rfl | exact .inr rfl) (by first | exact .inl rfl | exact .inr rfl)) pgs_nil))))
    (ass_cons (as_set 7 hN (ae_callTy call_tupleA Fx.n_tuple bt_tuple (aa_cons (ae_m0 PySem.F.plainAttrs_list PySem.F.slot_list_pop PySem.F.type_list_pop mt_popA (ae_var 4)) aa_nil)))
    (ass_cons (as_expr (ae_m PySem.F.plainAttrs_list PySem.F.slot_list_append PySem.F.type_list_append mt_appendA (ae_ix (ae_var 4) (ae_neg ae_int)) (aa_cons (ae_tup (aa_cons (ae_var 5) (aa_cons (ae_var 6) (aa_cons (ae_var 7) aa_nil)))) aa_nil)))
    (ass_one (as_aug 1 hN op_iaddA ae_int))))) (ass_cons (as_expr (ae_callO (ok_need_sign_) hr hx (aa_cons (ae_var 0) (aa_cons (ae_var 1) (aa_cons (ae_cst Fx.c_PLAIN_SIGNS) (aa_cons (ae_var 2) aa_nil)))) (len_cons (len_cons (len_cons (len_cons len_nil))))))
    (ass_cons (as_expr (ae_callO (ok_with_plain_) hr hx (aa_cons (ae_ix (ae_var 4) (ae_neg ae_int)) (aa_cons (ae_ix (ae_var 0) (ae_var 1)) aa_nil)) (len_cons (len_cons len_nil))))
    (ass_one (as_aug 1 hN op_iaddA ae_int)))))))))
    (ass_cons (as_if (at_cmp (op_neA hr.rm.units) (ae_var 3) (ae_lst aa_nil)) (ass_one as_never) ass_nil)
    (ass_one (as_ret (ae_callTy call_tupleA Fx.n_tuple bt_tuple (aa_cons (ae_ix (ae_var 4) ae_int) aa_nil)))))))
theorem ok_word_at (Fx : Facts K mg) : OkF P w K mg base 2 "word_at" ["line", "word", "row"] C_word_at := by
  unfold C_word_at
  have ok_need_sign_ := (ok_need_sign Fx : OkF P w K mg base 1 "need_sign" _ _).mono (show 1 ≤ 1 by decide)
  have hN := sc_word_at.nd
  refine ok_def (k := 1) (N := N_word_at) (ps := ["line", "word", "row"]) (st := st_word_at) (x := "word_at") (B := B_word_at) Fx.d_word_at sc_word_at fun f cdv A outer s H E hr hx hp => ?_
  exact (ass_cons (as_for hp rfl (ai_enum (aa_cons (ae_op op_addA (ae_var 1) (ae_cst Fx.c_BLANK)) aa_nil) Fx.n_enumerate) (ag_tp (is := [3, 4]) rfl (pgs_cons (pg_name (i := 3) hN rfl (by first | exact .inl rfl | exact .inr rfl) (by first | exact .inl rfl | exact .inr rfl)) (pgs_cons (pg_name (i := 4) hN rfl (by first | exact .inl rfl | exact .inr rfl) (by first | exact .inl rfl | exact .inr rfl)) pgs_nil))) (ass_one (as_expr (ae_callO (ok_need_sign_) hr hx (aa_cons (ae_var 0) (aa_cons (ae_var 3) (aa_cons (ae_var 4) (aa_cons (ae_var 2) aa_nil)))) (len_cons (len_cons (len_cons (len_cons len_nil))))))))
    (ass_one (as_ret (ae_op op_addA (ae_callB call_lenA Fx.n_len bt_len (aa_cons (ae_var 1) aa_nil)) ae_int))))
theorem ok_row_told (Fx : Facts K mg) : OkF P w K mg base 5 "row_told" ["line", "row"] C_row_told := by
  unfold C_row_told
  have ok_need_sign_ := (ok_need_sign Fx : OkF P w K mg base 1 "need_sign" _ _).mono (show 1 ≤ 4 by decide)
  have ok_word_at_ := (ok_word_at Fx : OkF P w K mg base 2 "word_at" _ _).mono (show 2 ≤ 4 by decide)
  have ok_text_at_ := (ok_text_at Fx : OkF P w K mg base 4 "text_at" _ _).mono (show 4 ≤ 4 by decide)
  have ok_name_at_ := (ok_name_at Fx : OkF P w K mg base 2 "name_at" _ _).mono (show 2 ≤ 4 by decide)
  have hN := sc_row_told.nd
  refine ok_def (k := 4) (N := N_row_told) (ps := ["line", "row"]) (st := st_row_told) (x := "row_told") (B := B_row_told) Fx.d_row_told sc_row_told fun f cdv A outer s H E hr hx hp => ?_
  exact (ass_cons (as_expr (ae_callO (ok_need_sign_) hr hx (aa_cons (ae_var 0) (aa_cons ae_int (aa_cons (ae_op op_addA (ae_op op_addA (ae_cst Fx.c_CAPITALS) (ae_ix (ae_cst Fx.c_DROP) ae_int)) (ae_ix (ae_cst Fx.c_CHECK) ae_int)) (aa_cons (ae_var 1) aa_nil)))) (len_cons (len_cons (len_cons (len_cons len_nil))))))
    (ass_cons (as_if (at_cmp (op_eqA hr.rm.units) (ae_ix (ae_var 0) ae_int) (ae_ix (ae_cst Fx.c_CHECK) ae_int)) (ass_one (as_ret (ae_tup (aa_cons (ae_cst Fx.c_CHECK) (aa_cons (ae_callO (ok_text_at_) hr hx (aa_cons (ae_var 0) (aa_cons (ae_callO (ok_word_at_) hr hx (aa_cons (ae_var 0) (aa_cons (ae_cst Fx.c_CHECK) (aa_cons (ae_var 1) aa_nil))) (len_cons (len_cons (len_cons len_nil)))) (aa_cons (ae_var 1) aa_nil))) (len_cons (len_cons (len_cons len_nil)))) aa_nil))))) ass_nil)
    (ass_cons (as_if (at_cmp (op_eqA hr.rm.units) (ae_ix (ae_var 0) ae_int) (ae_ix (ae_cst Fx.c_DROP) ae_int)) (ass_cons (as_asg (ae_callO (ok_name_at_) hr hx (aa_cons (ae_var 0) (aa_cons (ae_callO (ok_word_at_) hr hx (aa_cons (ae_var 0) (aa_cons (ae_cst Fx.c_DROP) (aa_cons (ae_var 1) aa_nil))) (len_cons (len_cons (len_cons len_nil)))) (aa_cons (ae_var 1) aa_nil))) (len_cons (len_cons (len_cons len_nil)))) (ag_tp (is := [2, 3]) rfl (pgs_cons (pg_name (i := 2) hN rfl (by first | exact .inl rfl | exact .inr rfl) (by first | exact .inl rfl | exact .inr rfl)) (pgs_cons (pg_name (i := 3) hN rfl (by first | exact .inl rfl | exact .inr rfl) (by first | exact .inl rfl | exact .inr rfl)) pgs_nil))))
    (ass_cons (as_if (at_cmp op_ltA (ae_var 3) (ae_callB call_lenA Fx.n_len bt_len (aa_cons (ae_var 0) aa_nil))) (ass_one as_never) ass_nil)
    (ass_one (as_ret (ae_tup (aa_cons (ae_cst Fx.c_DROP) (aa_cons (ae_var 2) aa_nil))))))) ass_nil)
    (ass_cons (as_asg (ae_callO (ok_name_at_) hr hx (aa_cons (ae_var 0) (aa_cons ae_int (aa_cons (ae_var 1) aa_nil))) (len_cons (len_cons (len_cons len_nil)))) (ag_tp (is := [2, 3]) rfl (pgs_cons (pg_name (i := 2) hN rfl (by first | exact .inl rfl | exact .inr rfl) (by first | exact .inl rfl | exact .inr rfl)) (pgs_cons (pg_name (i := 3) hN rfl (by first | exact .inl rfl | exact .inr rfl) (by first | exact .inl rfl | exact .inr rfl)) pgs_nil))))
    (ass_cons (as_expr (ae_callO (ok_need_sign_) hr hx (aa_cons (ae_var 0) (aa_cons (ae_var 3) (aa_cons (ae_op op_addA (ae_cst Fx.c_EQUALS) (ae_cst Fx.c_ASKED)) (aa_cons (ae_var 1) aa_nil)))) (len_cons (len_cons (len_cons (len_cons len_nil))))))
    (ass_cons (as_if (at_cmp (op_eqA hr.rm.units) (ae_ix (ae_var 0) (ae_var 3)) (ae_cst Fx.c_EQUALS)) (ass_one (as_ret (ae_tup (aa_cons (ae_cst Fx.c_SET) (aa_cons (ae_var 2) (aa_cons (ae_callO (ok_text_at_) hr hx (aa_cons (ae_var 0) (aa_cons (ae_op op_addA (ae_var 3) ae_int) (aa_cons (ae_var 1) aa_nil))) (len_cons (len_cons (len_cons len_nil)))) aa_nil)))))) ass_nil)
    (ass_cons (as_expr (ae_callO (ok_need_sign_) hr hx (aa_cons (ae_var 0) (aa_cons (ae_op op_addA (ae_var 3) ae_int) (aa_cons (ae_cst Fx.c_EQUALS) (aa_cons (ae_var 1) aa_nil)))) (len_cons (len_cons (len_cons (len_cons len_nil))))))
    (ass_one (as_ret (ae_tup (aa_cons (ae_cst Fx.c_GIVE) (aa_cons (ae_var 2) (aa_cons (ae_callO (ok_text_at_) hr hx (aa_cons (ae_var 0) (aa_cons (ae_op op_addA (ae_var 3) ae_int) (aa_cons (ae_var 1) aa_nil))) (len_cons (len_cons (len_cons len_nil)))) aa_nil)))))))))))))
theorem ok_need_string (Fx : Facts K mg) : OkF P w K mg base 1 "need_string" ["thing"] C_need_string := by
  unfold C_need_string
  have hN := sc_need_string.nd
  refine ok_def (k := 0) (N := N_need_string) (ps := ["thing"]) (st := st_need_string) (x := "need_string") (B := B_need_string) Fx.d_need_string sc_need_string fun f cdv A outer s H E hr hx hp => ?_
  exact (ass_one (as_if (at_not (at_val (ae_isi isT_str (ae_var 0) Fx.n_isinstance Fx.n_str bt_str))) (ass_one as_never) ass_nil))
theorem ok_read_text (Fx : Facts K mg) : OkF P w K mg base 11 "read_text" ["string"] C_read_text := by
  unfold C_read_text
  have ok_need_string_ := (ok_need_string Fx : OkF P w K mg base 1 "need_string" _ _).mono (show 1 ≤ 10 by decide)
  have ok_text_at_ := (ok_text_at Fx : OkF P w K mg base 4 "text_at" _ _).mono (show 4 ≤ 10 by decide)
  have ok_is_text_ := (ok_is_text Fx : OkF P w K mg base 10 "is_text" _ _).mono (show 10 ≤ 10 by decide)
  have hN := sc_read_text.nd
  refine ok_def (k := 10) (N := N_read_text) (ps := ["string"]) (st := st_read_text) (x := "read_text") (B := B_read_text) Fx.d_read_text sc_read_text fun f cdv A outer s H E hr hx hp => ?_
  exact (ass_cons (as_expr (ae_callO (ok_need_string_) hr hx (aa_cons (ae_var 0) aa_nil) (len_cons len_nil)))
    (ass_cons (as_set 1 hN (ae_callO (ok_text_at_) hr hx (aa_cons (ae_var 0) (aa_cons ae_int (aa_cons ae_int aa_nil))) (len_cons (len_cons (len_cons len_nil)))))
    (ass_cons (as_if (at_not (at_val (ae_callO (ok_is_text_) hr hx (aa_cons (ae_var 1) aa_nil) (len_cons len_nil)))) (ass_one as_never) ass_nil)
    (ass_one (as_ret (ae_var 1))))))
theorem ok_read_file (Fx : Facts K mg) : OkF P w K mg base 13 "read_file" ["string"] C_read_file := by
  unfold C_read_file
  have ok_need_string_ := (ok_need_string Fx : OkF P w K mg base 1 "need_string" _ _).mono (show 1 ≤ 12 by decide)
  have ok_row_told_ := (ok_row_told Fx : OkF P w K mg base 5 "row_told" _ _).mono (show 5 ≤ 12 by decide)
  have ok_need_file_ := (ok_need_file Fx : OkF P w K mg base 12 "need_file" _ _).mono (show 12 ≤ 12 by decide)
  have hN := sc_read_file.nd
  refine ok_def (k := 12) (N := N_read_file) (ps := ["string"]) (st := st_read_file) (x := "read_file") (B := B_read_file) Fx.d_read_file sc_read_file fun f cdv A outer s H E hr hx hp => ?_
  exact (ass_cons (as_expr (ae_callO (ok_need_string_) hr hx (aa_cons (ae_var 0) aa_nil) (len_cons len_nil)))
    (ass_cons (as_set 1 hN (ae_if (at_cmp (op_neA hr.rm.units) (ae_var 0) (ae_str [])) (ae_m PySem.F.plainAttrs_str PySem.F.slot_str_split PySem.F.type_str_split mt_splitA (ae_var 0) (aa_cons (ae_cst Fx.c_NEWLINE) aa_nil)) (ae_lst aa_nil)))
    (ass_one (as_ret (ae_callO (ok_need_file_) hr hx (aa_cons (ae_callTy call_tupleA Fx.n_tuple bt_tuple (aa_cons (ae_lc [("number", 2), ("line", 3)] rfl hN (ai_enum (aa_cons (ae_var 1) aa_nil) Fx.n_enumerate) (by exact blk_ok (N := N_read_file) (sc := defScope st_read_file) rfl (by decide +kernel) (by decide +kernel) (by decide +kernel) (by decide +kernel)) (by decide) (fun _ _ _ _ _ => (ag_tp (is := [2, 3]) rfl (pgs_cons (pg_name (i := 2) hN rfl (by first | exact .inl rfl | exact .inr rfl) (by first | exact .inl rfl | exact .inr rfl)) (pgs_cons (pg_name (i := 3) hN rfl (by first | exact .inl rfl | exact .inr rfl) (by first | exact .inl rfl | exact .inr rfl)) pgs_nil)))) (fun _ _ _ _ _ => ats_nil) (fun _ _ _ _ _ => (ae_callO (ok_row_told_) hr psd0 (aa_cons (ae_var 3) (aa_cons (ae_var 2) aa_nil)) (len_cons (len_cons len_nil))))) aa_nil)) aa_nil) (len_cons len_nil))))))
theorem ok__law_mixed (Fx : Facts K mg) : OkF P w K mg base 1 "_law_mixed" ["cell", "k"] C__law_mixed := by
  unfold C__law_mixed
  have hN := sc__law_mixed.nd
  refine ok_def (k := 0) (N := N__law_mixed) (ps := ["cell", "k"]) (st := st__law_mixed) (x := "_law_mixed") (B := B__law_mixed) Fx.d__law_mixed sc__law_mixed fun f cdv A outer s H E hr hx hp => ?_
  exact (ass_cons (as_set 0 hN (ae_op op_modA (ae_callTy call_intA Fx.n_int bt_int (aa_cons (ae_var 0) aa_nil)) ae_int))
    (ass_one (as_ret (ae_op op_modA (ae_op op_mulA (ae_op op_modA (ae_op op_addA (ae_op op_addA (ae_op op_mulA (ae_var 0) (ae_op op_addA ae_int (ae_op op_mulA (ae_op op_mulA ae_int (ae_var 1)) (ae_var 1)))) (ae_op op_mulA ae_int (ae_var 1))) ae_int) ae_int) ae_int) ae_int))))
theorem ok__law_begin (Fx : Facts K mg) : OkF P w K mg base 1 "_law_begin" ["script"] C__law_begin := by
  unfold C__law_begin
  have hN := sc__law_begin.nd
  refine ok_def (k := 0) (N := N__law_begin) (ps := ["script"]) (st := st__law_begin) (x := "_law_begin") (B := B__law_begin) Fx.d__law_begin sc__law_begin fun f cdv A outer s H E hr hx hp => ?_
  exact (ass_cons (as_set 1 hN (ae_if (at_cmp (op_neA hr.rm.units) (ae_var 0) (ae_lst aa_nil)) (ae_callTy call_listA Fx.n_list bt_list (aa_cons (ae_var 0) aa_nil)) (ae_lst (aa_cons ae_int aa_nil))))
    (ass_one (as_ret (ae_disp (aq_cons (ae_str [99, 101, 108, 108, 115]) (ae_var 1) (aq_cons (ae_str [108, 101, 102, 116, 115]) (ae_lc [("cell", 2)] rfl hN (ai_val (ae_var 1)) (by exact blk_ok (N := N__law_begin) (sc := defScope st__law_begin) rfl (by decide +kernel) (by decide +kernel) (by decide +kernel) (by decide +kernel)) (by decide) (fun _ _ _ _ _ => (ag_nm 2 hN)) (fun _ _ _ _ _ => ats_nil) (fun _ _ _ _ _ => (ae_if (at_cmp op_geA (ae_var 2) (ae_op op_powA ae_int ae_int)) (ae_var 2) ae_int))) (aq_cons (ae_str [97, 116]) ae_int (aq_cons (ae_str [114, 111, 111, 109]) ae_int aq_nil))))))))
theorem ok__law_draw (Fx : Facts K mg) : OkF P w K mg base 2 "_law_draw" ["state", "many"] C__law_draw := by
  unfold C__law_draw
  have ok__law_mixed_ := (ok__law_mixed Fx : OkF P w K mg base 1 "_law_mixed" _ _).mono (show 1 ≤ 1 by decide)
  have hN := sc__law_draw.nd
  refine ok_def (k := 1) (N := N__law_draw) (ps := ["state", "many"]) (st := st__law_draw) (x := "_law_draw") (B := B__law_draw) Fx.d__law_draw sc__law_draw fun f cdv A outer s H E hr hx hp => ?_
  exact (ass_cons (as_set 2 hN (ae_dget (hu_of hr.rm) (ae_var 0) (ae_str [97, 116])))
    (ass_cons (as_dput (hu_of hr.rm) (ae_var 0) (ae_str [97, 116]) (ae_op op_addA (ae_var 2) ae_int))
    (ass_cons (as_set 3 hN (ae_op op_modA (ae_callTy call_intA Fx.n_int bt_int (aa_cons (ae_var 2) aa_nil)) (ae_callB call_lenA Fx.n_len bt_len (aa_cons (ae_dget (hu_of hr.rm) (ae_var 0) (ae_str [99, 101, 108, 108, 115])) aa_nil))))
    (ass_cons (as_set 4 hN (ae_ix (ae_dget (hu_of hr.rm) (ae_var 0) (ae_str [108, 101, 102, 116, 115])) (ae_var 3)))
    (ass_cons (as_if (at_cmp op_gtA (ae_var 4) ae_int) (ass_cons (as_lput (ae_dget (hu_of hr.rm) (ae_var 0) (ae_str [108, 101, 102, 116, 115])) (ae_var 3) (ae_op op_fdivA (ae_var 4) (ae_var 1)))
    (ass_one (as_ret (ae_op op_modA (ae_callTy call_intA Fx.n_int bt_int (aa_cons (ae_var 4) aa_nil)) (ae_var 1))))) ass_nil)
    (ass_cons (as_set 5 hN (ae_callO (ok__law_mixed_) hr hx (aa_cons (ae_callO (ok__law_mixed_) hr hx (aa_cons (ae_ix (ae_dget (hu_of hr.rm) (ae_var 0) (ae_str [99, 101, 108, 108, 115])) (ae_var 3)) (aa_cons (ae_var 2) aa_nil)) (len_cons (len_cons len_nil))) (aa_cons (ae_op op_addA ae_int (ae_var 2)) aa_nil)) (len_cons (len_cons len_nil))))
    (ass_one (as_ret (ae_op op_modA (ae_op op_fdivA (ae_callTy call_intA Fx.n_int bt_int (aa_cons (ae_op op_addA (ae_op op_mulA (ae_var 5) ae_int) (ae_callO (ok__law_mixed_) hr hx (aa_cons (ae_var 5) (aa_cons (ae_op op_addA ae_int (ae_var 2)) aa_nil)) (len_cons (len_cons len_nil)))) aa_nil)) ae_int) (ae_var 1))))))))))
theorem ok__law_of (Fx : Facts K mg) : OkF P w K mg base 3 "_law_of" ["state", "some"] C__law_of := by
  unfold C__law_of
  have ok__law_draw_ := (ok__law_draw Fx : OkF P w K mg base 2 "_law_draw" _ _).mono (show 2 ≤ 2 by decide)
  have hN := sc__law_of.nd
  refine ok_def (k := 2) (N := N__law_of) (ps := ["state", "some"]) (st := st__law_of) (x := "_law_of") (B := B__law_of) Fx.d__law_of sc__law_of fun f cdv A outer s H E hr hx hp => ?_
  exact (ass_one (as_ret (ae_ix (ae_var 1) (ae_callO (ok__law_draw_) hr hx (aa_cons (ae_var 0) (aa_cons (ae_callB call_lenA Fx.n_len bt_len (aa_cons (ae_var 1) aa_nil)) aa_nil)) (len_cons (len_cons len_nil))))))
theorem ok__law_names (Fx : Facts K mg) : OkF P w K mg base 3 "_law_names" ["state", "many"] C__law_names := by
  unfold C__law_names
  have ok__law_draw_ := (ok__law_draw Fx : OkF P w K mg base 2 "_law_draw" _ _).mono (show 2 ≤ 2 by decide)
  have hN := sc__law_names.nd
  refine ok_def (k := 2) (N := N__law_names) (ps := ["state", "many"]) (st := st__law_names) (x := "_law_names") (B := B__law_names) Fx.d__law_names sc__law_names fun f cdv A outer s H E hr hx hp => ?_
  exact (ass_cons (as_par (i := 3) (j := 4) rfl hN (aa_cons (ae_lst (aa_cons (ae_str [65]) (aa_cons (ae_str [66]) (aa_cons (ae_str [67]) (aa_cons (ae_str [68, 95]) (aa_cons (ae_str [68, 66]) (aa_cons (ae_str [72, 79, 83, 84]) (aa_cons (ae_str [88]) (aa_cons (ae_str [89]) (aa_cons (ae_str [90, 95, 90]) (aa_cons (ae_str [65, 66, 67, 68, 69, 70, 71, 72]) aa_nil))))))))))) (aa_cons (ae_lst aa_nil) aa_nil)))
    (ass_cons (as_for hp rfl (ai_range (aa_cons (ae_var 1) aa_nil) Fx.n_range) (ag_nm 2 hN) (ass_one (as_expr (ae_m PySem.F.plainAttrs_list PySem.F.slot_list_append PySem.F.type_list_append mt_appendA (ae_var 4) (aa_cons (ae_m PySem.F.plainAttrs_list PySem.F.slot_list_pop PySem.F.type_list_pop mt_popA (ae_var 3) (aa_cons (ae_callO (ok__law_draw_) hr hx (aa_cons (ae_var 0) (aa_cons (ae_callB call_lenA Fx.n_len bt_len (aa_cons (ae_var 3) aa_nil)) aa_nil)) (len_cons (len_cons len_nil))) aa_nil)) aa_nil)))))
    (ass_one (as_ret (ae_callB call_sortedA Fx.n_sorted bt_sorted (aa_cons (ae_var 4) aa_nil))))))
theorem ok__law_plain (Fx : Facts K mg) : OkF P w K mg base 3 "_law_plain" ["state"] C__law_plain := by
  unfold C__law_plain
  have ok__law_draw_ := (ok__law_draw Fx : OkF P w K mg base 2 "_law_draw" _ _).mono (show 2 ≤ 2 by decide)
  have hN := sc__law_plain.nd
  refine ok_def (k := 2) (N := N__law_plain) (ps := ["state"]) (st := st__law_plain) (x := "_law_plain") (B := B__law_plain) Fx.d__law_plain sc__law_plain fun f cdv A outer s H E hr hx hp => ?_
  exact (ass_one (as_ret (ae_ix (ae_lst (aa_cons (ae_str [97]) (aa_cons (ae_str [98]) (aa_cons (ae_str [120]) (aa_cons (ae_str [97, 98]) (aa_cons (ae_str [97, 32, 98]) (aa_cons (ae_str [48]) (aa_cons (ae_str [45]) (aa_cons (ae_str [61]) (aa_cons (ae_str [58]) (aa_cons (ae_str [46, 47]) (aa_cons (ae_str [97, 61, 98]) (aa_cons (ae_str [95, 58, 61, 44, 64, 45]) aa_nil))))))))))))) (ae_callO (ok__law_draw_) hr hx (aa_cons (ae_var 0) (aa_cons ae_int aa_nil)) (len_cons (len_cons len_nil))))))
theorem okg__law_text (Fx : Facts K mg) : ∀ n : Nat, OkF P w K mg base (3 + n) "_law_text" ["state", "names", "deep"] (C__law_text n)
  | 0 => ok_zero Fx.d__law_text
  | n + 1 => by
    have ok__law_text_ := okg__law_text Fx n
    have ok__law_draw_ := (ok__law_draw Fx : OkF P w K mg base 2 "_law_draw" _ _).mono (show 2 ≤ 3 + n by omega)
    have ok__law_plain_ := (ok__law_plain Fx : OkF P w K mg base 3 "_law_plain" _ _).mono (show 3 ≤ 3 + n by omega)
    refine ?_
    · have hN := sc__law_text.nd
      refine ok_def (k := 3 + n) (N := N__law_text) (ps := ["state", "names", "deep"]) (st := st__law_text) (x := "_law_text") (B := B__law_text (C__law_text n)) Fx.d__law_text sc__law_text fun f cdv A outer s H E hr hx hp => ?_
      exact (ass_cons (as_set 3 hN (ae_lst aa_nil))
    (ass_cons (as_for hp rfl (ai_range (aa_cons (ae_callO (ok__law_draw_) hr hx (aa_cons (ae_var 0) (aa_cons (ae_ix (ae_lst (aa_cons ae_int (aa_cons ae_int (aa_cons ae_int (aa_cons ae_int aa_nil))))) (ae_callO (ok__law_draw_) hr hx (aa_cons (ae_var 0) (aa_cons ae_int aa_nil)) (len_cons (len_cons len_nil)))) aa_nil)) (len_cons (len_cons len_nil))) aa_nil) Fx.n_range) (ag_nm 4 hN) (ass_cons (as_if (AW.at (aw_or (at_cmp (op_eqA hr.rm.units) (ae_var 2) ae_int) (aw_or1 (at_cmp (op_eqA hr.rm.units) (ae_callO (ok__law_draw_) hr hx (aa_cons (ae_var 0) (aa_cons ae_int aa_nil)) (len_cons (len_cons len_nil))) ae_int)))) (ass_cons (as_if (AW.at (aw_or (at_cmp (op_eqA hr.rm.units) (ae_var 3) (ae_lst aa_nil)) (aw_or1 (at_not (at_val (ae_isi isT_str (ae_ix (ae_var 3) (ae_neg ae_int)) Fx.n_isinstance Fx.n_str bt_str)))))) (ass_one (as_expr (ae_m PySem.F.plainAttrs_list PySem.F.slot_list_append PySem.F.type_list_append mt_appendA (ae_var 3) (aa_cons (ae_callO (ok__law_plain_) hr hx (aa_cons (ae_var 0) aa_nil) (len_cons len_nil)) aa_nil)))) ass_nil)
    (ass_one as_continue)) ass_nil)
    (ass_cons (as_set 5 hN (ae_ix (ae_var 1) (ae_callO (ok__law_draw_) hr hx (aa_cons (ae_var 0) (aa_cons (ae_callB call_lenA Fx.n_len bt_len (aa_cons (ae_var 1) aa_nil)) aa_nil)) (len_cons (len_cons len_nil)))))
    (ass_cons (as_set 6 hN (ae_ix (ae_lst (aa_cons (ae_str []) (aa_cons (ae_str [45]) (aa_cons (ae_str [58, 45]) (aa_cons (ae_str [43]) (aa_cons (ae_str [58, 43]) (aa_cons (ae_str [63]) (aa_cons (ae_str [58, 63]) (aa_cons (ae_str [61]) (aa_cons (ae_str [58, 61]) (aa_cons (ae_str []) (aa_cons (ae_str [58, 45]) (aa_cons (ae_str [43]) aa_nil))))))))))))) (ae_callO (ok__law_draw_) hr hx (aa_cons (ae_var 0) (aa_cons ae_int aa_nil)) (len_cons (len_cons len_nil)))))
    (ass_one (as_expr (ae_m PySem.F.plainAttrs_list PySem.F.slot_list_append PySem.F.type_list_append mt_appendA (ae_var 3) (aa_cons (ae_tup (aa_cons (ae_var 5) (aa_cons (ae_var 6) (aa_cons (ae_if (at_cmp (op_eqA hr.rm.units) (ae_var 6) (ae_str [])) (ae_tup aa_nil) (ae_callO (ok__law_text_) hr hx (aa_cons (ae_var 0) (aa_cons (ae_var 1) (aa_cons (ae_op op_subA (ae_var 2) ae_int) aa_nil))) (len_cons (len_cons (len_cons len_nil))))) aa_nil)))) aa_nil))))))))
    (ass_one (as_ret (ae_callTy call_tupleA Fx.n_tuple bt_tuple (aa_cons (ae_var 3) aa_nil))))))
theorem ok__law_text (Fx : Facts K mg) (n : Nat) : OkF P w K mg base (3 + n) "_law_text" ["state", "names", "deep"] (C__law_text n) := (okg__law_text Fx n)
theorem ok__law_row (Fx : Facts K mg) : OkF P w K mg base 12 "_law_row" ["state", "names"] C__law_row := by
  unfold C__law_row
  have ok__law_draw_ := (ok__law_draw Fx : OkF P w K mg base 2 "_law_draw" _ _).mono (show 2 ≤ 11 by decide)
  have ok__law_text_ := (ok__law_text Fx 8 : OkF P w K mg base 11 "_law_text" _ _).mono (show 11 ≤ 11 by decide)
  have hN := sc__law_row.nd
  refine ok_def (k := 11) (N := N__law_row) (ps := ["state", "names"]) (st := st__law_row) (x := "_law_row") (B := B__law_row) Fx.d__law_row sc__law_row fun f cdv A outer s H E hr hx hp => ?_
  exact (ass_cons (as_par (i := 2) (j := 3) rfl hN (aa_cons (ae_callO (ok__law_draw_) hr hx (aa_cons (ae_var 0) (aa_cons ae_int aa_nil)) (len_cons (len_cons len_nil))) (aa_cons (ae_ix (ae_var 1) (ae_callO (ok__law_draw_) hr hx (aa_cons (ae_var 0) (aa_cons (ae_callB call_lenA Fx.n_len bt_len (aa_cons (ae_var 1) aa_nil)) aa_nil)) (len_cons (len_cons len_nil)))) aa_nil)))
    (ass_cons (as_if (at_cmp (op_eqA hr.rm.units) (ae_var 2) ae_int) (ass_one (as_ret (ae_tup (aa_cons (ae_str [100, 114, 111, 112]) (aa_cons (ae_var 3) aa_nil))))) ass_nil)
    (ass_cons (as_if (at_cmp (op_eqA hr.rm.units) (ae_var 2) ae_int) (ass_one (as_ret (ae_tup (aa_cons (ae_str [99, 104, 101, 99, 107]) (aa_cons (ae_callO (ok__law_text_) hr hx (aa_cons (ae_var 0) (aa_cons (ae_var 1) (aa_cons ae_int aa_nil))) (len_cons (len_cons (len_cons len_nil)))) aa_nil))))) ass_nil)
    (ass_one (as_ret (ae_tup (aa_cons (ae_ix (ae_lst (aa_cons (ae_str [115, 101, 116]) (aa_cons (ae_str [103, 105, 118, 101]) aa_nil))) (ae_op op_modA (ae_var 2) ae_int)) (aa_cons (ae_var 3) (aa_cons (ae_callO (ok__law_text_) hr hx (aa_cons (ae_var 0) (aa_cons (ae_var 1) (aa_cons ae_int aa_nil))) (len_cons (len_cons (len_cons len_nil)))) aa_nil)))))))))
theorem ok__law_file (Fx : Facts K mg) : OkF P w K mg base 13 "_law_file" ["state", "names", "most"] C__law_file := by
  unfold C__law_file
  have ok__law_draw_ := (ok__law_draw Fx : OkF P w K mg base 2 "_law_draw" _ _).mono (show 2 ≤ 12 by decide)
  have ok__law_row_ := (ok__law_row Fx : OkF P w K mg base 12 "_law_row" _ _).mono (show 12 ≤ 12 by decide)
  have hN := sc__law_file.nd
  refine ok_def (k := 12) (N := N__law_file) (ps := ["state", "names", "most"]) (st := st__law_file) (x := "_law_file") (B := B__law_file) Fx.d__law_file sc__law_file fun f cdv A outer s H E hr hx hp => ?_
  exact (ass_one (as_ret (ae_callTy call_tupleA Fx.n_tuple bt_tuple (aa_cons (ae_lc [("k", 3)] rfl hN (ai_range (aa_cons (ae_callO (ok__law_draw_) hr hx (aa_cons (ae_var 0) (aa_cons (ae_op op_addA (ae_var 2) ae_int) aa_nil)) (len_cons (len_cons len_nil))) aa_nil) Fx.n_range) (by exact blk_ok (N := N__law_file) (sc := defScope st__law_file) rfl (by decide +kernel) (by decide +kernel) (by decide +kernel) (by decide +kernel)) (by decide) (fun _ _ _ _ _ => (ag_nm 3 hN)) (fun _ _ _ _ _ => ats_nil) (fun _ _ _ _ _ => (ae_callO (ok__law_row_) hr psd0 (aa_cons (ae_var 0) (aa_cons (ae_var 1) aa_nil)) (len_cons (len_cons len_nil))))) aa_nil))))
theorem okg__law_written (Fx : Facts K mg) : ∀ n : Nat, OkF P w K mg base (0 + n) "_law_written" ["text"] (C__law_written n)
  | 0 => ok_zero Fx.d__law_written
  | n + 1 => by
    have ok__law_written_ := okg__law_written Fx n
    refine ?_
    · have hN := sc__law_written.nd
      refine ok_def (k := 0 + n) (N := N__law_written) (ps := ["text"]) (st := st__law_written) (x := "_law_written") (B := B__law_written (C__law_written n)) Fx.d__law_written sc__law_written fun f cdv A outer s H E hr hx hp => ?_
      exact (ass_cons (as_set 1 hN (ae_str []))
    (ass_cons (as_for hp rfl (ai_val (ae_var 0)) (ag_nm 2 hN) (ass_one (as_if (at_val (ae_isi isT_str (ae_var 2) Fx.n_isinstance Fx.n_str bt_str)) (ass_one (as_set 1 hN (ae_op op_addA (ae_var 1) (ae_var 2)))) (ass_one (as_set 1 hN (ae_op op_addA (ae_op op_addA (ae_op op_addA (ae_op op_addA (ae_op op_addA (ae_op op_addA (ae_var 1) (ae_str [36])) (ae_str [123])) (ae_ix (ae_var 2) ae_int)) (ae_ix (ae_var 2) ae_int)) (ae_callO (ok__law_written_) hr hx (aa_cons (ae_ix (ae_var 2) ae_int) aa_nil) (len_cons len_nil))) (ae_str [125])))))))
    (ass_one (as_ret (ae_var 1)))))
theorem ok__law_written (Fx : Facts K mg) (n : Nat) : OkF P w K mg base (0 + n) "_law_written" ["text"] (C__law_written n) := (okg__law_written Fx n)
theorem ok__law_row_written (Fx : Facts K mg) : OkF P w K mg base 9 "_law_row_written" ["row"] C__law_row_written := by
  unfold C__law_row_written
  have ok__law_written_ := (ok__law_written Fx 8 : OkF P w K mg base 8 "_law_written" _ _).mono (show 8 ≤ 8 by decide)
  have hN := sc__law_row_written.nd
  refine ok_def (k := 8) (N := N__law_row_written) (ps := ["row"]) (st := st__law_row_written) (x := "_law_row_written") (B := B__law_row_written) Fx.d__law_row_written sc__law_row_written fun f cdv A outer s H E hr hx hp => ?_
  exact (ass_cons (as_if (at_cmp (op_eqA hr.rm.units) (ae_ix (ae_var 0) ae_int) (ae_str [100, 114, 111, 112])) (ass_one (as_ret (ae_op op_addA (ae_str [100, 114, 111, 112, 32]) (ae_ix (ae_var 0) ae_int)))) ass_nil)
    (ass_cons (as_if (at_cmp (op_eqA hr.rm.units) (ae_ix (ae_var 0) ae_int) (ae_str [99, 104, 101, 99, 107])) (ass_one (as_ret (ae_op op_addA (ae_str [99, 104, 101, 99, 107, 32]) (ae_callO (ok__law_written_) hr hx (aa_cons (ae_ix (ae_var 0) ae_int) aa_nil) (len_cons len_nil))))) ass_nil)
    (ass_one (as_ret (ae_op op_addA (ae_op op_addA (ae_ix (ae_var 0) ae_int) (ae_if (at_cmp (op_eqA hr.rm.units) (ae_ix (ae_var 0) ae_int) (ae_str [115, 101, 116])) (ae_str [61]) (ae_str [63, 61]))) (ae_callO (ok__law_written_) hr hx (aa_cons (ae_ix (ae_var 0) ae_int) aa_nil) (len_cons len_nil)))))))
theorem ok__law_edge (Fx : Facts K mg) : OkF P w K mg base 4 "_law_edge" ["state"] C__law_edge := by
  unfold C__law_edge
  have ok__law_of_ := (ok__law_of Fx : OkF P w K mg base 3 "_law_of" _ _).mono (show 3 ≤ 3 by decide)
  have ok__law_draw_ := (ok__law_draw Fx : OkF P w K mg base 2 "_law_draw" _ _).mono (show 2 ≤ 3 by decide)
  have hN := sc__law_edge.nd
  refine ok_def (k := 3) (N := N__law_edge) (ps := ["state"]) (st := st__law_edge) (x := "_law_edge") (B := B__law_edge) Fx.d__law_edge sc__law_edge fun f cdv A outer s H E hr hx hp => ?_
  exact (ass_cons (as_set 1 hN (ae_str [97, 98, 99, 100, 101, 102, 103, 104, 105, 106, 107, 108, 109, 110, 111, 112, 113, 114, 115, 116, 117, 118, 119, 120, 121, 122, 48, 49, 50, 51, 52, 53, 54, 55, 56, 57, 32, 95, 46, 47, 58, 61, 44, 64, 45]))
    (ass_cons (as_set 2 hN (ae_lst (aa_cons (ae_str []) (aa_cons (ae_str [45]) (aa_cons (ae_str [58, 45]) (aa_cons (ae_str [43]) (aa_cons (ae_str [58, 43]) (aa_cons (ae_str [63]) (aa_cons (ae_str [58, 63]) (aa_cons (ae_str [61]) (aa_cons (ae_str [58, 61]) aa_nil)))))))))))
    (ass_cons (as_set 3 hN (ae_lst aa_nil))
    (ass_cons (as_for hp rfl (ai_range (aa_cons ae_int aa_nil) Fx.n_range) (ag_nm 4 hN) (ass_cons (as_par (i := 6) (j := 7) rfl hN (aa_cons (ae_callO (ok__law_of_) hr hx (aa_cons (ae_var 0) (aa_cons (ae_var 2) aa_nil)) (len_cons (len_cons len_nil))) (aa_cons (ae_callO (ok__law_of_) hr hx (aa_cons (ae_var 0) (aa_cons (ae_lst (aa_cons (ae_str [65]) (aa_cons (ae_str [90, 95]) (aa_cons (ae_str [65, 66, 67, 68, 69, 70, 71, 72]) (aa_cons (ae_str [88, 95, 89, 95, 90, 95, 65, 95]) aa_nil))))) aa_nil)) (len_cons (len_cons len_nil))) aa_nil)))
    (ass_one (as_if (AW.at (aw_or (AW.at (aw_and (at_cmp op_gtA (ae_var 4) ae_int) (aw_and1 (at_val (ae_isi isT_str (ae_ix (ae_var 3) (ae_neg ae_int)) Fx.n_isinstance Fx.n_str bt_str))))) (aw_or1 (at_cmp op_gtA (ae_callO (ok__law_draw_) hr hx (aa_cons (ae_var 0) (aa_cons ae_int aa_nil)) (len_cons (len_cons len_nil))) ae_int)))) (ass_one (as_expr (ae_m PySem.F.plainAttrs_list PySem.F.slot_list_append PySem.F.type_list_append mt_appendA (ae_var 3) (aa_cons (ae_tup (aa_cons (ae_var 7) (aa_cons (ae_var 6) (aa_cons (ae_tup aa_nil) aa_nil)))) aa_nil)))) (ass_one (as_expr (ae_m PySem.F.plainAttrs_list PySem.F.slot_list_append PySem.F.type_list_append mt_appendA (ae_var 3) (aa_cons (ae_m PySem.F.plainAttrs_str PySem.F.slot_str_join PySem.F.type_str_join mt_joinA (ae_str []) (aa_cons (ae_lc [("turn", 8)] rfl hN (ai_range (aa_cons ae_int aa_nil) Fx.n_range) (by exact blk_ok (N := N__law_edge) (sc := defScope st__law_edge) rfl (by decide +kernel) (by decide +kernel) (by decide +kernel) (by decide +kernel)) (by decide) (fun _ _ _ _ _ => (ag_nm 8 hN)) (fun _ _ _ _ _ => ats_nil) (fun _ _ _ _ _ => (ae_ix (ae_var 1) (ae_callO (ok__law_draw_) hr psd0 (aa_cons (ae_var 0) (aa_cons ae_int aa_nil)) (len_cons (len_cons len_nil)))))) aa_nil)) aa_nil))))))))
    (ass_cons (as_set 5 hN (ae_tup (aa_cons (ae_str [101, 110, 100]) aa_nil)))
    (ass_cons (as_for hp rfl (ai_range (aa_cons ae_int aa_nil) Fx.n_range) (ag_nm 4 hN) (ass_one (as_set 5 hN (ae_tup (aa_cons (ae_tup (aa_cons (ae_callO (ok__law_of_) hr hx (aa_cons (ae_var 0) (aa_cons (ae_lst (aa_cons (ae_str [78]) (aa_cons (ae_str [79, 95, 79]) aa_nil))) aa_nil)) (len_cons (len_cons len_nil))) (aa_cons (ae_callO (ok__law_of_) hr hx (aa_cons (ae_var 0) (aa_cons (ae_sl (ae_var 2) (ao_some ae_int) ao_none) aa_nil)) (len_cons (len_cons len_nil))) (aa_cons (ae_var 5) aa_nil)))) (aa_cons (ae_str [58, 45]) aa_nil))))))
    (ass_one (as_ret (ae_tup (aa_cons (ae_callTy call_tupleA Fx.n_tuple bt_tuple (aa_cons (ae_var 3) aa_nil)) (aa_cons (ae_var 5) aa_nil)))))))))))
theorem ok__law_text_right (Fx : Facts K mg) : OkF P w K mg base 12 "_law_text_right" ["text"] C__law_text_right := by
  unfold C__law_text_right
  have ok__law_written_ := (ok__law_written Fx 8 : OkF P w K mg base 8 "_law_written" _ _).mono (show 8 ≤ 11 by decide)
  have ok_text_of_ := (ok_text_of Fx : OkF P w K mg base 11 "text_of" _ _).mono (show 11 ≤ 11 by decide)
  have ok_read_text_ := (ok_read_text Fx : OkF P w K mg base 11 "read_text" _ _).mono (show 11 ≤ 11 by decide)
  have hN := sc__law_text_right.nd
  refine ok_def (k := 11) (N := N__law_text_right) (ps := ["text"]) (st := st__law_text_right) (x := "_law_text_right") (B := B__law_text_right) Fx.d__law_text_right sc__law_text_right fun f cdv A outer s H E hr hx hp => ?_
  exact (ass_cons (as_set 1 hN (ae_callO (ok__law_written_) hr hx (aa_cons (ae_var 0) aa_nil) (len_cons len_nil)))
    (ass_one (as_ret (ae_and (ae_cmp (op_eqA hr.rm.units) (ae_callO (ok_text_of_) hr hx (aa_cons (ae_var 0) aa_nil) (len_cons len_nil)) (ae_var 1)) (ae_and1 (ae_cmp (op_eqA hr.rm.units) (ae_callB (call_reprA hr.gd hr.rm.units) Fx.n_repr bt_repr (aa_cons (ae_callO (ok_read_text_) hr hx (aa_cons (ae_var 1) aa_nil) (len_cons len_nil)) aa_nil)) (ae_callB (call_reprA hr.gd hr.rm.units) Fx.n_repr bt_repr (aa_cons (ae_var 0) aa_nil))))))))
theorem ok__law_file_right (Fx : Facts K mg) : OkF P w K mg base 14 "_law_file_right" ["rows"] C__law_file_right := by
  unfold C__law_file_right
  have ok__law_row_written_ := (ok__law_row_written Fx : OkF P w K mg base 9 "_law_row_written" _ _).mono (show 9 ≤ 13 by decide)
  have ok_file_text_ := (ok_file_text Fx : OkF P w K mg base 13 "file_text" _ _).mono (show 13 ≤ 13 by decide)
  have ok_read_file_ := (ok_read_file Fx : OkF P w K mg base 13 "read_file" _ _).mono (show 13 ≤ 13 by decide)
  have hN := sc__law_file_right.nd
  refine ok_def (k := 13) (N := N__law_file_right) (ps := ["rows"]) (st := st__law_file_right) (x := "_law_file_right") (B := B__law_file_right) Fx.d__law_file_right sc__law_file_right fun f cdv A outer s H E hr hx hp => ?_
  exact (ass_cons (as_set 1 hN (ae_m PySem.F.plainAttrs_str PySem.F.slot_str_join PySem.F.type_str_join mt_joinA (ae_str [10]) (aa_cons (ae_lc [("row", 2)] rfl hN (ai_val (ae_var 0)) (by exact blk_ok (N := N__law_file_right) (sc := defScope st__law_file_right) rfl (by decide +kernel) (by decide +kernel) (by decide +kernel) (by decide +kernel)) (by decide) (fun _ _ _ _ _ => (ag_nm 2 hN)) (fun _ _ _ _ _ => ats_nil) (fun _ _ _ _ _ => (ae_callO (ok__law_row_written_) hr psd0 (aa_cons (ae_var 2) aa_nil) (len_cons len_nil)))) aa_nil)))
    (ass_one (as_ret (ae_and (ae_cmp (op_eqA hr.rm.units) (ae_callO (ok_file_text_) hr hx (aa_cons (ae_var 0) aa_nil) (len_cons len_nil)) (ae_var 1)) (ae_and1 (ae_cmp (op_eqA hr.rm.units) (ae_callB (call_reprA hr.gd hr.rm.units) Fx.n_repr bt_repr (aa_cons (ae_callO (ok_read_file_) hr hx (aa_cons (ae_var 1) aa_nil) (len_cons len_nil)) aa_nil)) (ae_callB (call_reprA hr.gd hr.rm.units) Fx.n_repr bt_repr (aa_cons (ae_var 0) aa_nil))))))))
theorem ok_law (Fx : Facts K mg) : OkF P w K mg base 15 "law" ["script"] C_law := by
  unfold C_law
  have ok__law_begin_ := (ok__law_begin Fx : OkF P w K mg base 1 "_law_begin" _ _).mono (show 1 ≤ 14 by decide)
  have ok__law_draw_ := (ok__law_draw Fx : OkF P w K mg base 2 "_law_draw" _ _).mono (show 2 ≤ 14 by decide)
  have ok__law_names_ := (ok__law_names Fx : OkF P w K mg base 3 "_law_names" _ _).mono (show 3 ≤ 14 by decide)
  have ok__law_file_ := (ok__law_file Fx : OkF P w K mg base 13 "_law_file" _ _).mono (show 13 ≤ 14 by decide)
  have ok__law_edge_ := (ok__law_edge Fx : OkF P w K mg base 4 "_law_edge" _ _).mono (show 4 ≤ 14 by decide)
  have ok__law_text_ := (ok__law_text Fx 8 : OkF P w K mg base 11 "_law_text" _ _).mono (show 11 ≤ 14 by decide)
  have ok__law_text_right_ := (ok__law_text_right Fx : OkF P w K mg base 12 "_law_text_right" _ _).mono (show 12 ≤ 14 by decide)
  have ok__law_file_right_ := (ok__law_file_right Fx : OkF P w K mg base 14 "_law_file_right" _ _).mono (show 14 ≤ 14 by decide)
  have ok_file_text_ := (ok_file_text Fx : OkF P w K mg base 13 "file_text" _ _).mono (show 13 ≤ 14 by decide)
  have ok_text_of_ := (ok_text_of Fx : OkF P w K mg base 11 "text_of" _ _).mono (show 11 ≤ 14 by decide)
  have ok_read_file_ := (ok_read_file Fx : OkF P w K mg base 13 "read_file" _ _).mono (show 13 ≤ 14 by decide)
  have ok_read_text_ := (ok_read_text Fx : OkF P w K mg base 11 "read_text" _ _).mono (show 11 ≤ 14 by decide)
  have hN := sc_law.nd
  refine ok_def (k := 14) (N := N_law) (ps := ["script"]) (st := st_law) (x := "law") (B := B_law) Fx.d_law sc_law fun f cdv A outer s H E hr hx hp => ?_
  exact (ass_cons (as_set 1 hN (ae_callO (ok__law_begin_) hr hx (aa_cons (ae_var 0) aa_nil) (len_cons len_nil)))
    (ass_cons (as_set 2 hN (ae_tup (aa_cons (ae_tup (aa_cons (ae_str [115, 101, 116]) (aa_cons (ae_str [76, 65, 83, 84]) (aa_cons (ae_tup (aa_cons (ae_str [120]) aa_nil)) aa_nil)))) aa_nil)))
    (ass_cons (as_for hp rfl (ai_range (aa_cons (ae_op op_addA ae_int (ae_callB (call_minA rfl) Fx.n_min bt_min (aa_cons ae_int (aa_cons (ae_callB call_lenA Fx.n_len bt_len (aa_cons (ae_var 0) aa_nil)) aa_nil)))) aa_nil) Fx.n_range) (ag_nm 3 hN) (ass_cons (as_set 5 hN (ae_callO (ok__law_names_) hr hx (aa_cons (ae_var 1) (aa_cons (ae_op op_addA ae_int (ae_callO (ok__law_draw_) hr hx (aa_cons (ae_var 1) (aa_cons ae_int aa_nil)) (len_cons (len_cons len_nil)))) aa_nil)) (len_cons (len_cons len_nil))))
    (ass_cons (as_set 6 hN (ae_callO (ok__law_file_) hr hx (aa_cons (ae_var 1) (aa_cons (ae_var 5) (aa_cons (ae_ix (ae_lst (aa_cons ae_int (aa_cons ae_int aa_nil))) (ae_callO (ok__law_draw_) hr hx (aa_cons (ae_var 1) (aa_cons ae_int aa_nil)) (len_cons (len_cons len_nil)))) aa_nil))) (len_cons (len_cons (len_cons len_nil)))))
    (ass_cons (as_asg (ae_callO (ok__law_edge_) hr hx (aa_cons (ae_var 1) aa_nil) (len_cons len_nil)) (ag_tp (is := [9, 10]) rfl (pgs_cons (pg_name (i := 9) hN rfl (by first | exact .inl rfl | exact .inr rfl) (by first | exact .inl rfl | exact .inr rfl)) (pgs_cons (pg_name (i := 10) hN rfl (by first | exact .inl rfl | exact .inr rfl) (by first | exact .inl rfl | exact .inr rfl)) pgs_nil))))
    (ass_cons (as_for hp rfl (ai_val (ae_tup (aa_cons (ae_var 9) (aa_cons (ae_var 10) (aa_cons (ae_callO (ok__law_text_) hr hx (aa_cons (ae_var 1) (aa_cons (ae_var 5) (aa_cons ae_int aa_nil))) (len_cons (len_cons (len_cons len_nil)))) (aa_cons (ae_tup aa_nil) aa_nil)))))) (ag_nm 7 hN) (ass_one (as_if (at_not (at_val (ae_callO (ok__law_text_right_) hr hx (aa_cons (ae_var 7) aa_nil) (len_cons len_nil)))) (ass_one (as_ret ae_bl)) ass_nil)))
    (ass_cons (as_set 8 hN (ae_tup (aa_cons (ae_tup (aa_cons (ae_str [115, 101, 116]) (aa_cons (ae_str [65]) (aa_cons (ae_var 9) aa_nil)))) (aa_cons (ae_tup (aa_cons (ae_str [103, 105, 118, 101]) (aa_cons (ae_str [66]) (aa_cons (ae_var 10) aa_nil)))) aa_nil))))
    (ass_cons (as_for hp rfl (ai_val (ae_tup (aa_cons (ae_var 6) (aa_cons (ae_var 8) (aa_cons (ae_tup (aa_cons (ae_tup (aa_cons (ae_str [99, 104, 101, 99, 107]) (aa_cons (ae_var 10) aa_nil))) (aa_cons (ae_tup (aa_cons (ae_str [100, 114, 111, 112]) (aa_cons (ae_str [88, 95, 89]) aa_nil))) (aa_cons (ae_tup (aa_cons (ae_str [99, 104, 101, 99, 107]) (aa_cons (ae_tup aa_nil) aa_nil))) aa_nil)))) aa_nil))))) (ag_nm 4 hN) (ass_one (as_if (at_not (at_val (ae_callO (ok__law_file_right_) hr hx (aa_cons (ae_var 4) aa_nil) (len_cons len_nil)))) (ass_one (as_ret ae_bl)) ass_nil)))
    (ass_cons (as_if (AW.at (aw_and (at_cmp (op_neA hr.rm.units) (ae_var 2) (ae_var 6)) (aw_and1 (at_cmp (op_eqA hr.rm.units) (ae_callO (ok_file_text_) hr hx (aa_cons (ae_var 2) aa_nil) (len_cons len_nil)) (ae_callO (ok_file_text_) hr hx (aa_cons (ae_var 6) aa_nil) (len_cons len_nil)))))) (ass_one (as_ret ae_bl)) ass_nil)
    (ass_one (as_set 2 hN (ae_var 6)))))))))))
    (ass_cons (as_set 4 hN (ae_tup (aa_cons (ae_tup (aa_cons (ae_str [115, 101, 116]) (aa_cons (ae_str [66]) (aa_cons (ae_tup (aa_cons (ae_tup (aa_cons (ae_str [65]) (aa_cons (ae_str [58, 45]) (aa_cons (ae_tup (aa_cons (ae_str [120]) aa_nil)) aa_nil)))) (aa_cons (ae_str [47]) aa_nil))) aa_nil)))) (aa_cons (ae_tup (aa_cons (ae_str [103, 105, 118, 101]) (aa_cons (ae_str [65]) (aa_cons (ae_tup aa_nil) aa_nil)))) (aa_cons (ae_tup (aa_cons (ae_str [100, 114, 111, 112]) (aa_cons (ae_str [65]) aa_nil))) (aa_cons (ae_tup (aa_cons (ae_str [99, 104, 101, 99, 107]) (aa_cons (ae_tup (aa_cons (ae_str [97, 61, 98]) aa_nil)) aa_nil))) aa_nil))))))
    (ass_cons (as_if (AW.at (aw_or (at_cmp (op_neA hr.rm.units) (ae_callO (ok_file_text_) hr hx (aa_cons (ae_var 4) aa_nil) (len_cons len_nil)) (ae_op op_addA (ae_str [66, 61, 36]) (ae_str [123, 65, 58, 45, 120, 125, 47, 10, 65, 63, 61, 10, 100, 114, 111, 112, 32, 65, 10, 99, 104, 101, 99, 107, 32, 97, 61, 98]))) (aw_or (at_cmp (op_neA hr.rm.units) (ae_callO (ok_file_text_) hr hx (aa_cons (ae_tup aa_nil) aa_nil) (len_cons len_nil)) (ae_str [])) (aw_or1 (at_cmp (op_neA hr.rm.units) (ae_callO (ok_text_of_) hr hx (aa_cons (ae_tup aa_nil) aa_nil) (len_cons len_nil)) (ae_str [])))))) (ass_one (as_ret ae_bl)) ass_nil)
    (ass_one (as_ret (ae_and (ae_cmp (op_eqA hr.rm.units) (ae_callO (ok_read_file_) hr hx (aa_cons (ae_str []) aa_nil) (len_cons len_nil)) (ae_tup aa_nil)) (ae_and (ae_cmp (op_eqA hr.rm.units) (ae_callO (ok_read_text_) hr hx (aa_cons (ae_str []) aa_nil) (len_cons len_nil)) (ae_tup aa_nil)) (ae_and1 (ae_cmp (op_eqA hr.rm.units) (ae_callO (ok_read_file_) hr hx (aa_cons (ae_str [65, 61, 120, 61, 121]) aa_nil) (len_cons len_nil)) (ae_tup (aa_cons (ae_tup (aa_cons (ae_str [115, 101, 116]) (aa_cons (ae_str [65]) (aa_cons (ae_tup (aa_cons (ae_str [120, 61, 121]) aa_nil)) aa_nil)))) aa_nil)))))))))))))
end
end LK06

set_option Elab.async false
set_option linter.all false
set_option maxRecDepth 100000
set_option maxHeartbeats 1000000
namespace LK06
open Al
/-! ### stores that grow -/
/-- a list of one's own behind S -/
def At (S : Store) (acc : List D) (S' : Store) : Prop := ∃ T, S' = S ++ O.lst acc :: T
theorem At.new {S : Store} {acc : List D} : At S acc (S ++ [.lst acc]) := ⟨[], rfl⟩
theorem At.get {S S' : Store} {acc : List D} (h : At S acc S') : S'[S.length]? = some (.lst acc) := by obtain ⟨T, rfl⟩ := h; simp
theorem At.set {S S' : Store} {acc : List D} (b : List D) (h : At S acc S') : At S b (S'.set S.length (.lst b)) := by obtain ⟨T, rfl⟩ := h; exact ⟨T, by simp⟩
theorem At.ext {S S' S'' : Store} {acc : List D} (h : At S acc S') (x : S' <+: S'') : At S acc S'' := by
  obtain ⟨T, rfl⟩ := h
  obtain ⟨U, rfl⟩ := x
  exact ⟨T ++ U, by simp⟩
theorem At.pre {S S' : Store} {acc : List D} (h : At S acc S') : S <+: S' := by obtain ⟨T, rfl⟩ := h; exact List.prefix_append _ _
theorem ty_list {S : Store} {n : Nat} {xs : List D} (h : S[n]? = some (.lst xs)) : tyD "list" (.ref n) S = true := by
  unfold tyD; simp only [h]; rfl
theorem append_is {S : Store} {n : Nat} {xs : List D} {y : D} (h : S[n]? = some (.lst xs)) (l : xs.length < lim) : appendM (.ref n) [y] S = some (.non, S.set n (.lst (xs ++ [y]))) := by
  unfold appendM; simp only [h, if_pos l]
/-! ### comprehensions over texts -/
theorem lc_signs (x : List Nat) {v : Nat} {el : EF} {ρ : Env} {S : Store} (g : Nat → D) (small : x.length < lim)
    (h : ∀ c ∈ x, ∀ S', Ends (el (ρ.set v (some (.str [c]))) S') fun d S'' => d = g c ∧ S'' = S') :
    Ends (lcF (fun i _ => nxL (signs x) i) (.nm v) tYesF el S.length (x.length + 1) 0 ρ (S ++ [.lst []])) fun d S' => d = .ref S.length ∧ S' = S ++ [.lst (x.map g)] := by
  have len : (signs x).length = x.length := by simp [signs]
  refine lc_ends x.length (fun i => (signs x).getD i .non) (fun i acc S' => acc = (x.take i).map g ∧ S' = S ++ [.lst acc]) small ?_ ?_ ?_ _ 0 [] _ ⟨by simp, rfl⟩ (by simp) (by simp) (by omega) (by omega)
  · intro i acc S' _ hi
    rw [← len] at hi ⊢
    exact nxL_is _ i hi
  · rintro i acc S' hi ⟨rfl, rfl⟩ e
    refine ⟨_, rfl, ?_⟩
    have ei : (signs x).getD i .non = .str [x[i]] := by simp [signs, hi]
    rw [ei]
    simp only [ev_tYes, ends_ok, if_true]
    refine (h x[i] (List.getElem_mem hi) _).mono ?_
    rintro d S'' ⟨rfl, rfl⟩
    refine ⟨e, ?_, ?_⟩
    · rw [List.take_add_one, List.getElem?_eq_getElem hi, List.map_append]; rfl
    · simp
  · rintro acc S' ⟨rfl, rfl⟩ e
    simp
theorem all_true (S : Store) (x : List Nat) : allF [.ref S.length] (S ++ [.lst (x.map fun _ => .bl true)]) = some (.bl true, S ++ [.lst (x.map fun _ => .bl true)]) := by
  show ((lstAt _ _).bind (mapO asBl)).map _ = _
  rw [lstAt_of (xs := x.map fun _ => D.bl true) _ (by simp), Option.bind_some, mapO_map (h := fun _ => true) x (by intro _ _; rfl)]
  simp
/-! ### names, plain texts -/
def caps : List Nat := [65, 66, 67, 68, 69, 70, 71, 72, 73, 74, 75, 76, 77, 78, 79, 80, 81, 82, 83, 84, 85, 86, 87, 88, 89, 90]
def plains : List Nat := [97, 98, 99, 100, 101, 102, 103, 104, 105, 106, 107, 108, 109, 110, 111, 112, 113, 114, 115, 116, 117, 118, 119, 120, 121, 122, 48, 49, 50, 51, 52, 53, 54, 55, 56, 57, 32, 95, 46, 47, 58, 61, 44, 64, 45]
def nameB (x : List Nat) : Bool := decide (1 ≤ x.length) && decide (x.length ≤ 8) && decide (x.head? ≠ some 95) && x.all fun c => decide (c ∈ caps ++ [95])
def plainB (x : List Nat) : Bool := decide (1 ≤ x.length) && decide (x.length ≤ 20) && x.all fun c => decide (c ∈ plains)
def sgns : List (List Nat) := [[], [45], [58, 45], [43], [58, 43], [63], [58, 63], [61], [58, 61]]
theorem is_name_ok {x : List Nat} {S : Store} (h : nameB x = true) : Ends (C_is_name [.str x] S) fun d S' => d = .bl true ∧ S <+: S' := by
  unfold nameB at h
  simp only [Bool.and_eq_true, decide_eq_true_eq] at h
  obtain ⟨⟨⟨h1, h2⟩, h3⟩, h4⟩ := h
  have hL : x.length ≤ 16777216 := by omega
  have e1 : (1 : Int) ≤ x.length := by omega
  have e2 : (x.length : Int) ≤ 8 := by omega
  simp [C_is_name, B_is_name, startE, k_MOST_IN_NAME, hL, e1, e2]
  obtain ⟨c, r, rfl⟩ : ∃ c r, x = c :: r := by
    cases x with
    | nil => simp at h1
    | cons c r => exact ⟨c, r, rfl⟩
  have hc : c ≠ 95 := by simpa using h3
  have hb : (c == 95) = false := by simp [hc]
  simp [hb]
  refine (lc_signs (c :: r) (fun c => .bl true) (by unfold lim; omega) ?_).thn ?_
  · intro c' hc' S'
    have hm := List.all_eq_true.mp h4 c' hc'
    simp [wipeE, k_CAPITALS]
    simpa [caps] using hm
  · rintro d S' ⟨rfl, rfl⟩
    rw [all_true]
    simp
theorem is_plain_ok {x : List Nat} {S : Store} (h : plainB x = true) : Ends (C_is_plain [.str x] S) fun d S' => d = .bl true ∧ S <+: S' := by
  unfold plainB at h
  simp only [Bool.and_eq_true, decide_eq_true_eq] at h
  obtain ⟨⟨h1, h2⟩, h4⟩ := h
  have hL : x.length ≤ 16777216 := by omega
  have e1 : (1 : Int) ≤ x.length := by omega
  have e2 : (x.length : Int) ≤ 20 := by omega
  simp [C_is_plain, B_is_plain, startE, k_MOST_PLAIN, hL, e1, e2]
  refine (lc_signs x (fun c => .bl true) (by unfold lim; omega) ?_).thn ?_
  · intro c' hc' S'
    have hm := List.all_eq_true.mp h4 c' hc'
    simp [wipeE, k_PLAIN_SIGNS]
    simpa [plains] using hm
  · rintro d S' ⟨rfl, rfl⟩
    rw [all_true]
    simp
theorem is_plain_tup {ds : List D} {S : Store} : Ends (C_is_plain [.tup ds] S) fun d S' => d = .bl false ∧ S' = S := by
  simp [C_is_plain, B_is_plain, startE]
/-! ### texts -/
mutual
inductive Pc where
  | pl (x : List Nat)
  | pt (n s : List Nat) (t : Tx)
inductive Tx where
  | nil
  | cons (p : Pc) (t : Tx)
end
def Tx.l : Tx → List Pc
  | .nil => []
  | .cons p t => p :: t.l
def Tx.of : List Pc → Tx
  | [] => .nil
  | p :: l => .cons p (Tx.of l)
theorem Tx.of_l : ∀ t : Tx, Tx.of t.l = t
  | .nil => rfl
  | .cons p t => by simp [Tx.l, Tx.of, Tx.of_l t]
theorem Tx.l_of : ∀ l : List Pc, (Tx.of l).l = l
  | [] => rfl
  | p :: l => by simp [Tx.l, Tx.of, Tx.l_of l]
mutual
def Pc.d : Pc → D
  | .pl x => .str x
  | .pt n s t => .tup [.str n, .str s, .tup t.ds]
def Tx.ds : Tx → List D
  | .nil => []
  | .cons p t => p.d :: t.ds
end
theorem Tx.ds_eq : ∀ t : Tx, t.ds = t.l.map Pc.d
  | .nil => by simp [Tx.ds, Tx.l]
  | .cons p t => by simp [Tx.ds, Tx.l, Tx.ds_eq t]
mutual
def Pc.wr : Pc → List Nat
  | .pl x => x
  | .pt n s t => [36, 123] ++ n ++ s ++ t.wr ++ [125]
def Tx.wr : Tx → List Nat
  | .nil => []
  | .cons p t => p.wr ++ t.wr
end
theorem Tx.wr_eq : ∀ t : Tx, t.wr = (t.l.map Pc.wr).flatten
  | .nil => by simp [Tx.wr, Tx.l]
  | .cons p t => by simp [Tx.wr, Tx.l, Tx.wr_eq t]
def Pc.isPl : Pc → Bool
  | .pl _ => true
  | _ => false
def Tx.hd : Tx → Bool
  | .cons p _ => p.isPl
  | .nil => false
def Tx.isNil : Tx → Bool
  | .nil => true
  | _ => false
mutual
/-- pieces at the levels M + 1 -/
def Pc.ok : Pc → Nat → Bool
  | .pl x, _ => plainB x
  | .pt n s t, M => nameB n && decide (s ∈ sgns) && (if s = [] then t.isNil else decide (0 < M) && decide (t.l.length ≤ 8) && t.ok (M - 1))
def Tx.ok : Tx → Nat → Bool
  | .nil, _ => true
  | .cons p t, M => p.ok M && !(p.isPl && t.hd) && t.ok M
end
theorem Tx.ok_mem {M : Nat} : ∀ {t : Tx}, t.ok M = true → ∀ p ∈ t.l, p.ok M = true
  | .nil, _, p, h => by cases h
  | .cons q t, h, p, hp => by
    simp only [Tx.ok, Bool.and_eq_true] at h
    rcases List.mem_cons.mp hp with e | e
    · rw [e]; exact h.1.1
    · exact Tx.ok_mem h.2 p e
theorem Tx.ok_adj {M : Nat} : ∀ {t : Tx}, t.ok M = true → ∀ i p q, t.l[i]? = some p → t.l[i + 1]? = some q → p.isPl = false ∨ q.isPl = false
  | .nil, _, i, p, q, h, _ => by simp [Tx.l] at h
  | .cons a t, h, 0, p, q, h1, h2 => by
    simp only [Tx.ok, Bool.and_eq_true] at h
    simp only [Tx.l, List.getElem?_cons_zero, Option.some.injEq, List.getElem?_cons_succ] at h1 h2
    subst h1
    cases t with
    | nil => simp [Tx.l] at h2
    | cons b t => simp only [Tx.l, List.getElem?_cons_zero, Option.some.injEq] at h2; subst h2; have := h.1.2; simp only [Tx.hd] at this; simpa using this
  | .cons a t, h, i + 1, p, q, h1, h2 => by
    simp only [Tx.ok, Bool.and_eq_true] at h
    exact Tx.ok_adj h.2 i p q (by simpa [Tx.l] using h1) (by simpa [Tx.l] using h2)
end LK06

set_option Elab.async false
set_option linter.all false
set_option maxRecDepth 100000
set_option maxHeartbeats 1000000
namespace LK06
open Al
theorem sgn_in {s : List Nat} {S : Store} (h : s ∈ sgns) : notInO (.str s) k_SIGNS S = some (.bl false, S) := by
  simp only [sgns, List.mem_cons, List.not_mem_nil, or_false] at h
  rcases h with rfl | rfl | rfl | rfl | rfl | rfl | rfl | rfl | rfl <;> rfl
/-- is_part of a part, given is_text_of of its text -/
theorem is_part_ok {n' s : List Nat} {t : Tx} {M n : Nat} {S : Store} (h : (Pc.pt n' s t).ok M = true)
    (ih : s ≠ [] → ∀ S, Ends (C_is_text_of n [.tup t.ds, .int (M : Nat)] S) fun d S' => d = .bl true ∧ S <+: S') :
    Ends (C_is_part (n + 1) [(Pc.pt n' s t).d, .int (M : Nat)] S) fun d S' => d = .bl true ∧ S <+: S' := by
  simp only [Pc.ok, Bool.and_eq_true, decide_eq_true_eq] at h
  obtain ⟨⟨hn, hs⟩, ht⟩ := h
  have hs2 : ∀ S, notInO (.str s) k_SIGNS S = some (.bl false, S) := fun S => sgn_in hs
  simp [C_is_part, B_is_part, startE, Pc.d]
  refine (is_name_ok hn).thn ?_
  rintro d S1 ⟨rfl, x1⟩
  simp [hs2]
  by_cases e : s = []
  · subst e
    rw [if_pos rfl] at ht
    cases t with
    | cons p t => simp [Tx.isNil] at ht
    | nil => simpa [Tx.ds] using x1
  · rw [if_neg e] at ht
    simp only [Bool.and_eq_true, decide_eq_true_eq] at ht
    have hM : (0 : Int) < (M : Int) := by have := ht.1.1; omega
    have hs3 : (s == []) = false := by simpa using e
    simp [e, ht.1.1]
    refine (ih e S1).mono ?_
    rintro d S2 ⟨rfl, x2⟩
    simpa using x1.trans x2
theorem get_ds {t : Tx} {i : Nat} {p : Pc} (h : t.l[i]? = some p) : L2.atI t.ds (i : Nat) = some p.d := by
  refine L2.atI_nat ?_
  rw [Tx.ds_eq, List.getElem?_map, h]
  rfl
theorem kd_pc (p : Pc) (S : Store) : kdOf p.d S = some (if p.isPl then Kd.str else Kd.tup) := by
  cases p <;> simp [Pc.d, Pc.isPl]
theorem is_text_of_ok {t : Tx} {M n : Nat} {S : Store} (hl : t.l.length ≤ 8) (h : t.ok M = true)
    (ih : ∀ n' s t', Pc.pt n' s t' ∈ t.l → ∀ S, Ends (C_is_part n [(Pc.pt n' s t').d, .int (M : Nat)] S) fun d S' => d = .bl true ∧ S <+: S') :
    Ends (C_is_text_of (n + 1) [.tup t.ds, .int ((M : Nat) + 1)] S) fun d S' => d = .bl true ∧ S <+: S' := by
  have e8 : ¬ (8 : Int) < ((t.l.length : Nat) : Int) := by omega
  simp [C_is_text_of, B_is_text_of, startE, k_MOST_PIECES, Tx.ds_eq, e8]
  refine (for_enum t.l Pc.d (fun i ρ S' => S <+: S' ∧ ∃ a b, ρ = [some (.tup t.ds), some (.int ((M : Nat) + 1)), a, b]) (Q := fun o S' => S <+: S' ∧ ∃ ρ, o = .nx ρ) ⟨List.prefix_refl _, none, none, by rw [Tx.ds_eq]⟩ ?_ ?_).thn ?_
  · rintro i p ρ S1 hp ⟨x1, a, b, rfl⟩
    have hok := Tx.ok_mem h p (List.mem_of_getElem? hp)
    have two : i = 0 ∨ ∃ j q, i = j + 1 ∧ t.l[j]? = some q ∧ (q.isPl = false ∨ p.isPl = false) := by
      cases i with
      | zero => exact .inl rfl
      | succ j =>
        have hj : j < t.l.length := by have := (List.getElem?_eq_some_iff.mp hp).1; omega
        exact .inr ⟨j, t.l[j], rfl, List.getElem?_eq_getElem hj, Tx.ok_adj h j _ p (List.getElem?_eq_getElem hj) hp⟩
    cases p with
    | pl x =>
      simp [Pc.d]
      refine (is_plain_ok hok).thn ?_
      rintro d S2 ⟨rfl, x2⟩
      have x3 := x1.trans x2
      rcases two with rfl | ⟨j, q, rfl, hq, adj⟩
      · simpa [Tx.ds_eq] using x3
      · have e : ((j + 1 : Nat) : Int) - 1 = (j : Int) := by omega
        have e0 : (0 : Int) < ((j + 1 : Nat) : Int) := by omega
        have adj2 : q.isPl = false := by simpa [Pc.isPl] using adj
        simp [e0, e, get_ds hq, kd_pc, adj2]
        simpa [Tx.ds_eq] using x3
    | pt n' s t' =>
      simp [Pc.d]
      refine is_plain_tup.thn ?_
      rintro d S2 ⟨rfl, rfl⟩
      simp
      have := ih n' s t' (List.mem_of_getElem? hp) S2
      simp only [Pc.d] at this
      refine this.thn ?_
      rintro d S3 ⟨rfl, x2⟩
      have x3 := x1.trans x2
      rcases two with rfl | ⟨j, q, rfl, hq, adj⟩
      · simpa [Tx.ds_eq] using x3
      · have e0 : (0 : Int) < ((j + 1 : Nat) : Int) := by omega
        simp [e0]
        simpa [Tx.ds_eq] using x3
  · rintro ρ S1 ⟨x1, a, b, rfl⟩
    exact ⟨x1, _, rfl⟩
  · rintro o S1 ⟨x1, ρ, rfl⟩
    simpa using x1

/-! ### texts and rows are told -/
mutual
theorem part_ok : ∀ (t : Tx) (M : Nat) (n' s : List Nat) (n : Nat) (S : Store), (Pc.pt n' s t).ok M = true → 2 * M + 1 ≤ n → Ends (C_is_part n [(Pc.pt n' s t).d, .int (M : Nat)] S) fun d S' => d = .bl true ∧ S <+: S'
  | t, M, n', s, 0, S, h, hn => absurd hn (by omega)
  | t, M, n', s, n + 1, S, h, hn => by
    refine is_part_ok h fun hs S => ?_
    simp only [Pc.ok, Bool.and_eq_true, decide_eq_true_eq, if_neg hs] at h
    obtain ⟨M', rfl⟩ : ∃ M', M = M' + 1 := ⟨M - 1, by have := h.2.1.1; omega⟩
    exact text_ok t M' n S h.2.1.2 h.2.2 (by omega)
theorem text_ok : ∀ (t : Tx) (M n : Nat) (S : Store), t.l.length ≤ 8 → t.ok M = true → 2 * M + 2 ≤ n → Ends (C_is_text_of n [.tup t.ds, .int ((M : Nat) + 1)] S) fun d S' => d = .bl true ∧ S <+: S'
  | t, M, 0, S, hl, h, hn => absurd hn (by omega)
  | t, M, n + 1, S, hl, h, hn => is_text_of_ok hl h fun n' s t' hm S => parts_ok t M n S h (by omega) n' s t' hm
theorem parts_ok : ∀ (t : Tx) (M n : Nat) (S : Store), t.ok M = true → 2 * M + 1 ≤ n → ∀ n' s t', Pc.pt n' s t' ∈ t.l → Ends (C_is_part n [(Pc.pt n' s t').d, .int (M : Nat)] S) fun d S' => d = .bl true ∧ S <+: S'
  | .nil, M, n, S, h, hn, n', s, t', hm => by cases hm
  | .cons (.pl x) t, M, n, S, h, hn, n', s, t', hm => by
    simp only [Tx.ok, Bool.and_eq_true] at h
    exact parts_ok t M n S h.2 hn n' s t' (by simpa [Tx.l] using hm)
  | .cons (.pt n2 s2 t2) t, M, n, S, h, hn, n', s, t', hm => by
    simp only [Tx.ok, Bool.and_eq_true] at h
    rcases List.mem_cons.mp hm with e | e
    · cases e
      exact part_ok t2 M _ _ n S h.1.1 hn
    · exact parts_ok t M n S h.2 hn n' s t' e
end
inductive Rw where
  | set (n : List Nat) (t : Tx) | give (n : List Nat) (t : Tx) | drop (n : List Nat) | check (t : Tx)
def Rw.d : Rw → D
  | .set n t => .tup [.str [115, 101, 116], .str n, .tup t.ds]
  | .give n t => .tup [.str [103, 105, 118, 101], .str n, .tup t.ds]
  | .drop n => .tup [.str [100, 114, 111, 112], .str n]
  | .check t => .tup [.str [99, 104, 101, 99, 107], .tup t.ds]
def Tx.ok4 (t : Tx) : Bool := decide (t.l.length ≤ 8) && t.ok 3
def Rw.ok : Rw → Bool
  | .set n t => nameB n && t.ok4
  | .give n t => nameB n && t.ok4
  | .drop n => nameB n
  | .check t => t.ok4
theorem is_text_ok {t : Tx} {S : Store} (h : t.ok4 = true) : Ends (C_is_text [.tup t.ds] S) fun d S' => d = .bl true ∧ S <+: S' := by
  simp only [Tx.ok4, Bool.and_eq_true, decide_eq_true_eq] at h
  simp [C_is_text, B_is_text, startE, k_MOST_LEVELS]
  refine (text_ok t 3 8 S h.1 h.2 (by omega)).mono ?_
  rintro d S' ⟨rfl, x⟩
  simpa using x
theorem in_kinds1 (S : Store) : inO (.str [115, 101, 116]) (.tup [k_SET, k_GIVE]) S = some (.bl true, S) := rfl
theorem in_kinds2 (S : Store) : inO (.str [103, 105, 118, 101]) (.tup [k_SET, k_GIVE]) S = some (.bl true, S) := rfl
theorem in_kinds3 (S : Store) : inO (.str [100, 114, 111, 112]) (.tup [k_SET, k_GIVE]) S = some (.bl false, S) := rfl
theorem in_kinds4 (S : Store) : inO (.str [99, 104, 101, 99, 107]) (.tup [k_SET, k_GIVE]) S = some (.bl false, S) := rfl
theorem is_row_ok {r : Rw} {S : Store} (h : r.ok = true) : Ends (C_is_row [r.d] S) fun d S' => d = .bl true ∧ S <+: S' := by
  cases r with
  | set n t =>
    simp only [Rw.ok, Bool.and_eq_true] at h
    simp [C_is_row, B_is_row, startE, Rw.d, in_kinds1]
    refine (is_name_ok h.1).thn ?_
    rintro d S1 ⟨rfl, x1⟩
    simp
    refine (is_text_ok h.2).mono ?_
    rintro d S2 ⟨rfl, x2⟩
    simpa using x1.trans x2
  | give n t =>
    simp only [Rw.ok, Bool.and_eq_true] at h
    simp [C_is_row, B_is_row, startE, Rw.d, in_kinds2]
    refine (is_name_ok h.1).thn ?_
    rintro d S1 ⟨rfl, x1⟩
    simp
    refine (is_text_ok h.2).mono ?_
    rintro d S2 ⟨rfl, x2⟩
    simpa using x1.trans x2
  | drop n =>
    simp only [Rw.ok] at h
    simp [C_is_row, B_is_row, startE, Rw.d, in_kinds3, k_DROP]
    refine (is_name_ok h).mono ?_
    rintro d S1 ⟨rfl, x1⟩
    simpa using x1
  | check t =>
    simp only [Rw.ok] at h
    simp [C_is_row, B_is_row, startE, Rw.d, in_kinds4, k_DROP, k_CHECK]
    refine (is_text_ok h).mono ?_
    rintro d S1 ⟨rfl, x1⟩
    simpa using x1
end LK06

set_option Elab.async false
set_option linter.all false
set_option maxRecDepth 100000
set_option maxHeartbeats 1000000
namespace LK06
open Al
mutual
def Pc.dep : Pc → Nat
  | .pl _ => 0
  | .pt _ _ t => t.dep + 1
def Tx.dep : Tx → Nat
  | .nil => 0
  | .cons p t => max p.dep t.dep
end
mutual
def Pc.nms : Pc → List (List Nat)
  | .pl _ => []
  | .pt n _ t => n :: t.nms
def Tx.nms : Tx → List (List Nat)
  | .nil => []
  | .cons p t => p.nms ++ t.nms
end
theorem Tx.nms_eq : ∀ t : Tx, t.nms = (t.l.map Pc.nms).flatten
  | .nil => by simp [Tx.nms, Tx.l]
  | .cons p t => by simp [Tx.nms, Tx.l, Tx.nms_eq t]
theorem Tx.dep_mem : ∀ {t : Tx} {p : Pc}, p ∈ t.l → p.dep ≤ t.dep
  | .nil, p, h => by cases h
  | .cons q t, p, h => by
    simp only [Tx.dep]
    rcases List.mem_cons.mp h with e | e
    · subst e; omega
    · have := Tx.dep_mem e; omega
theorem Tx.wr_mem : ∀ {t : Tx} {p : Pc}, p ∈ t.l → p.wr.length ≤ t.wr.length
  | .nil, p, h => by cases h
  | .cons q t, p, h => by
    simp only [Tx.wr, List.length_append]
    rcases List.mem_cons.mp h with e | e
    · subst e; omega
    · have := Tx.wr_mem e; omega
mutual
theorem Pc.dep_ok : ∀ (p : Pc) (M : Nat), p.ok M = true → p.dep ≤ M + 1
  | .pl _, M, h => by simp [Pc.dep]
  | .pt n s t, M, h => by
    simp only [Pc.ok, Bool.and_eq_true, decide_eq_true_eq] at h
    simp only [Pc.dep]
    split at h
    · cases t with
      | nil => simp [Tx.dep]
      | cons p t => simp [Tx.isNil] at h
    · simp only [Bool.and_eq_true, decide_eq_true_eq] at h
      have := Tx.dep_ok t (M - 1) h.2.2
      omega
theorem Tx.dep_ok : ∀ (t : Tx) (M : Nat), t.ok M = true → t.dep ≤ M + 1
  | .nil, M, h => by simp [Tx.dep]
  | .cons p t, M, h => by
    simp only [Tx.ok, Bool.and_eq_true] at h
    simp only [Tx.dep]
    have a := Pc.dep_ok p M h.1.1
    have b := Tx.dep_ok t M h.2
    omega
end
mutual
theorem Pc.nms_len : ∀ p : Pc, p.nms.length ≤ p.wr.length
  | .pl _ => by simp [Pc.nms]
  | .pt n s t => by
    have := Tx.nms_len t
    simp only [Pc.nms, Pc.wr, List.length_cons, List.length_append, List.length_nil]
    omega
theorem Tx.nms_len : ∀ t : Tx, t.nms.length ≤ t.wr.length
  | .nil => by simp [Tx.nms]
  | .cons p t => by
    have a := Pc.nms_len p
    have b := Tx.nms_len t
    simp only [Tx.nms, Tx.wr, List.length_append]
    omega
end
@[simp] theorem ty_str (x : List Nat) (S : Store) : tyD "str" (.str x) S = true := rfl
theorem joinL_nil : ∀ l : List (List Nat), joinL [] l = l.flatten
  | [] => rfl
  | [p] => by simp [joinL]
  | p :: q :: r => by simp [joinL, joinL_nil (q :: r)]
theorem join_is {S : Store} {n : Nat} {l : List (List Nat)} {s : List Nat} (h : S[n]? = some (.lst (l.map .str))) (z : (l.map List.length).sum + l.length * s.length ≤ lim) : joinM (.str s) [.ref n] S = some (.str (joinL s l), S) := by
  show (((lstAt S n).bind (mapO asStr)).bind fun l => if (l.map List.length).sum + l.length * s.length ≤ lim then some (D.str (joinL s l), S) else none) = _
  have e : mapO asStr (l.map D.str) = some (l.map id) := mapO_map l fun _ _ => rfl
  rw [List.map_id] at e
  rw [lstAt_of S h, Option.bind_some, e, Option.bind_some, if_pos z]
theorem extend_is {S : Store} {n m : Nat} {xs ys : List D} (h : S[n]? = some (.lst xs)) (i : S[m]? = some (.lst ys)) (l : xs.length + ys.length ≤ lim) : extendM (.ref n) [.ref m] S = some (.non, S.set n (.lst (xs ++ ys))) := by
  unfold extendM; simp only [h, i, if_pos l]
theorem ds_map (t : Tx) : D.tup t.ds = .tup (t.l.map Pc.d) := by rw [Tx.ds_eq]
/-! ### the written form -/
theorem sub_ok {n s : List Nat} {t : Tx} {M : Nat} (h : (Pc.pt n s t).ok M = true) : t.l.length ≤ 8 ∧ ∃ M', t.ok M' = true := by
  simp only [Pc.ok, Bool.and_eq_true, decide_eq_true_eq] at h
  split at h
  · cases t with
    | nil => exact ⟨by simp [Tx.l], 0, by simp [Tx.ok]⟩
    | cons p t => simp [Tx.isNil] at h
  · simp only [Bool.and_eq_true, decide_eq_true_eq] at h
    exact ⟨h.2.1.2, _, h.2.2⟩
theorem wr_pt (n s : List Nat) (t : Tx) : (Pc.pt n s t).wr = 36 :: 123 :: (n ++ (s ++ (t.wr ++ [125]))) := by simp [Pc.wr]
theorem take_snoc {α : Type} {l : List α} {i : Nat} {x : α} (h : l[i]? = some x) : l.take i ++ [x] = l.take (i + 1) := by rw [List.take_add_one, h]; rfl
theorem written_ok : ∀ (n : Nat) (t : Tx) (M : Nat) (S : Store), t.l.length ≤ 8 → t.ok M = true → t.dep < n → t.wr.length ≤ 1000000 → Ends (C_written n [.tup t.ds] S) fun d S' => d = .str t.wr ∧ S <+: S'
  | 0, t, M, S, _, _, h, z => absurd h (by omega)
  | n + 1, t, M, S, h8, hok, h, z => by
    simp [C_written, B_written, startE, ds_map]
    refine (for_tup t.l Pc.d (fun i ρ S' => At S ((t.l.map fun p => D.str p.wr).take i) S' ∧ ∃ a, ρ = [some (.tup (t.l.map Pc.d)), some (.ref S.length), a]) (Q := fun o S' => At S (t.l.map fun p => .str p.wr) S' ∧ ∃ a, o = .nx [some (.tup (t.l.map Pc.d)), some (.ref S.length), a])
      ⟨by simpa using At.new, none, rfl⟩ ?_ ?_).thn ?_
    · rintro i p ρ S1 hp ⟨at1, a, rfl⟩
      have hi : i < t.l.length := (List.getElem?_eq_some_iff.mp hp).1
      have tk := take_snoc (l := t.l.map fun p => D.str p.wr) (i := i) (x := .str p.wr) (by rw [List.getElem?_map, hp]; rfl)
      have few : ((t.l.map fun p => D.str p.wr).take i).length < lim := by simp; omega
      have hm := List.mem_of_getElem? hp
      cases p with
      | pl x =>
        simp [Pc.d, ty_list at1.get, append_is at1.get few]
        rw [← tk]
        exact at1.set _
      | pt n' s t' =>
        have w1 := Tx.wr_mem hm
        have d1 := Tx.dep_mem hm
        simp only [Pc.dep] at d1
        rw [wr_pt] at w1
        simp only [List.length_cons, List.length_append, List.length_nil] at w1
        obtain ⟨l8, M', ok'⟩ := sub_ok (Tx.ok_mem hok _ hm)
        have b1 : 2 + n'.length ≤ 16777216 := by omega
        have b2 : n'.length + 1 + 1 + s.length ≤ 16777216 := by omega
        simp [Pc.d, ty_list at1.get, k_BEGIN, k_END, b1, b2]
        refine (written_ok n t' M' S1 l8 ok' (by omega) (by omega)).thn ?_
        rintro d S2 ⟨rfl, x2⟩
        have at2 := at1.ext x2
        have b3 : n'.length + s.length + 1 + 1 + t'.wr.length ≤ 16777216 := by omega
        have b4 : n'.length + (s.length + t'.wr.length) + 1 + 1 + 1 ≤ 16777216 := by omega
        have b5 : n'.length + (s.length + t'.wr.length) + 1 + 1 ≤ 16777215 := by omega
        simp [b3, b4, b5, append_is at2.get few]
        rw [← tk, wr_pt]
        exact at2.set _
    · rintro ρ S1 ⟨at1, a, rfl⟩
      exact ⟨by rwa [List.take_of_length_le (by simp)] at at1, a, rfl⟩
    · rintro o S1 ⟨at1, a, rfl⟩
      have g := at1.get
      rw [show (t.l.map fun p => D.str p.wr) = (t.l.map Pc.wr).map D.str by simp] at g
      have zz : ((t.l.map Pc.wr).map List.length).sum + (t.l.map Pc.wr).length * ([] : List Nat).length ≤ lim := by
        rw [← List.length_flatten, ← Tx.wr_eq]
        simp; omega
      simp [join_is g zz, joinL_nil, ← Tx.wr_eq]
      exact at1.pre

/-! ### names -/
theorem take_flat {α β : Type} {f : α → List β} {l : List α} {i : Nat} {x : α} (h : l[i]? = some x) : ((l.take i).map f).flatten ++ f x = ((l.take (i + 1)).map f).flatten := by
  rw [← take_snoc h, List.map_append, List.flatten_append]; simp
/-- the names of the first pieces -/
def nmA (l : List Pc) (i : Nat) : List D := ((l.take i).map Pc.nms).flatten.map .str
theorem nmA_0 (l : List Pc) : nmA l 0 = [] := by simp [nmA]
theorem nmA_succ {l : List Pc} {i : Nat} {p : Pc} (h : l[i]? = some p) : nmA l (i + 1) = nmA l i ++ p.nms.map .str := by
  unfold nmA; rw [← take_flat h, List.map_append]
theorem nmA_all (t : Tx) : nmA t.l t.l.length = t.nms.map .str := by unfold nmA; rw [List.take_length, ← Tx.nms_eq]
theorem nmA_len (t : Tx) (i : Nat) : (nmA t.l i).length ≤ t.nms.length := by
  unfold nmA
  rw [List.length_map, Tx.nms_eq]
  conv => rhs; rw [← List.take_append_drop i t.l, List.map_append, List.flatten_append, List.length_append]
  omega
theorem names_text_ok : ∀ (n : Nat) (t : Tx) (S : Store), t.dep < n → t.nms.length ≤ 1000000 → Ends (C_names_in_text n [.tup t.ds] S) fun d S' => d = .ref S.length ∧ At S (t.nms.map .str) S'
  | 0, t, S, h, z => absurd h (by omega)
  | n + 1, t, S, h, z => by
    simp [C_names_in_text, B_names_in_text, startE, ds_map]
    refine (for_tup t.l Pc.d (fun i ρ S' => At S (nmA t.l i) S' ∧ ∃ a, ρ = [some (.tup (t.l.map Pc.d)), some (.ref S.length), a]) (Q := fun o S' => At S (t.nms.map .str) S' ∧ ∃ a, o = .nx [some (.tup (t.l.map Pc.d)), some (.ref S.length), a])
      ⟨by rw [nmA_0]; exact At.new, none, rfl⟩ ?_ ?_).thn ?_
    · rintro i p ρ S1 hp ⟨at1, a, rfl⟩
      have hm := List.mem_of_getElem? hp
      have bi := nmA_len t (i + 1)
      rw [nmA_succ hp, List.length_append, List.length_map] at bi
      rw [nmA_succ hp]
      cases p with
      | pl x =>
        simp only [Pc.d]
        simpa [Pc.nms] using at1
      | pt n' s t' =>
        have d1 := Tx.dep_mem hm
        simp only [Pc.dep] at d1
        simp only [Pc.nms, List.length_cons] at bi
        have few : (nmA t.l i).length < lim := by simp only [lim_is]; omega
        simp only [Pc.d]
        have at2 := at1.set (nmA t.l i ++ [.str n'])
        simp [ty_list at1.get, append_is at1.get few, ty_list at2.get]
        refine (names_text_ok n t' _ (by omega) (by omega)).thn ?_
        rintro d S2 ⟨rfl, at3⟩
        have at4 := at2.ext at3.pre
        have small : (nmA t.l i ++ [D.str n']).length + (t'.nms.map D.str).length ≤ lim := by
          simp only [List.length_append, List.length_map, List.length_cons, List.length_nil, lim_is]; omega
        rw [extend_is at4.get at3.get small]
        have at5 := at4.set (nmA t.l i ++ [.str n'] ++ t'.nms.map D.str)
        simp [Pc.nms]
        simpa using at5
    · rintro ρ S1 ⟨at1, a, rfl⟩
      rw [nmA_all] at at1
      exact ⟨at1, a, rfl⟩
    · rintro o S1 ⟨at1, a, rfl⟩
      simpa using at1
end LK06

set_option Elab.async false
set_option linter.all false
set_option maxRecDepth 100000
set_option maxHeartbeats 1000000
namespace LK06
open Al
def Rw.own : Rw → List (List Nat)
  | .set n _ => [n]
  | .give n _ => [n]
  | .drop n => [n]
  | .check _ => []
def Rw.txt : Rw → Tx
  | .set _ t => t
  | .give _ t => t
  | .drop _ => .nil
  | .check t => t
/-- flattened first parts -/
def flA {α : Type} (f : α → List (List Nat)) (l : List α) (i : Nat) : List D := ((l.take i).map f).flatten.map .str
section
variable {α : Type} {f : α → List (List Nat)} {l : List α} {i : Nat} {x : α}
theorem flA_0 : flA f l 0 = [] := by simp [flA]
theorem flA_succ (h : l[i]? = some x) : flA f l (i + 1) = flA f l i ++ (f x).map .str := by unfold flA; rw [← take_flat h, List.map_append]
theorem flA_all : flA f l l.length = ((l.map f).flatten).map .str := by unfold flA; rw [List.take_length]
theorem flA_len : (flA f l i).length ≤ (l.map f).flatten.length := by
  unfold flA
  rw [List.length_map]
  conv => rhs; rw [← List.take_append_drop i l, List.map_append, List.flatten_append, List.length_append]
  omega
end
def allN (rows : List Rw) : List (List Nat) := (rows.map Rw.own).flatten ++ (rows.map fun r => r.txt.nms).flatten
theorem text_of_row_ok {r : Rw} {S : Store} : Ends (C_text_of_row [r.d] S) fun d S' => d = .tup r.txt.ds ∧ S' = S := by
  cases r with
  | set n t => simp [C_text_of_row, B_text_of_row, startE, Rw.d, k_DROP, Rw.txt, show ∀ (a b c : D), L2.atI [a, b, c] (-1) = some c from fun a b c => L2.atI_last [a, b] c]
  | give n t => simp [C_text_of_row, B_text_of_row, startE, Rw.d, k_DROP, Rw.txt, show ∀ (a b c : D), L2.atI [a, b, c] (-1) = some c from fun a b c => L2.atI_last [a, b] c]
  | drop n => simp [C_text_of_row, B_text_of_row, startE, Rw.d, k_DROP, Rw.txt, Tx.ds]
  | check t => simp [C_text_of_row, B_text_of_row, startE, Rw.d, k_DROP, Rw.txt, show ∀ (a c : D), L2.atI [a, c] (-1) = some c from fun a c => L2.atI_last [a] c]
theorem strsOf_is {S : Store} {n : Nat} {l : List (List Nat)} (h : S[n]? = some (.lst (l.map .str))) : strsOf (.ref n) S = some l := by
  have e : mapO asStr (l.map D.str) = some (l.map id) := mapO_map l fun _ _ => rfl
  rw [List.map_id] at e
  show (lstAt S n).bind (mapO asStr) = _
  rw [lstAt_of S h, Option.bind_some, e]
@[simp] theorem ev_sortSet (a : EF) (ρ : Env) (S : Store) : eSortSet a ρ S = (a ρ S).bind fun x S1 => match strsOf x S1 with
  | some l => if l.length < 4000 then .ok (.ref S1.length) (S1 ++ [.lst ((sortT (dedT l)).map .str)]) else .stuck
  | none => .stuck := rfl
theorem names_in_ok {rows : List Rw} {S : Store} (hd : ∀ r ∈ rows, r.txt.dep < 8) (few : (allN rows).length < 4000) (many : rows.length < 4000) :
    Ends (C_names_in [.tup (rows.map Rw.d)] S) fun d S' => ∃ k, d = .ref k ∧ S'[k]? = some (.lst ((sortT (dedT (allN rows))).map .str)) ∧ S <+: S' := by
  have few1 : (rows.map Rw.own).flatten.length + (rows.map fun r => r.txt.nms).flatten.length < 4000 := by rw [← List.length_append]; exact few
  simp [C_names_in, B_names_in, startE]
  refine Ends.thn (Q := fun d S' => d = .ref S.length ∧ At S (((rows.map Rw.own).flatten).map .str) S') ?_ ?_
  · refine lc_ends rows.length (fun i => (rows.map Rw.d).getD i .non) (fun i acc S' => acc = flA Rw.own rows i ∧ At S acc S') (by simp only [lim_is]; omega) ?_ ?_ ?_ _ 0 [] _ ⟨by rw [flA_0], At.new⟩ (by simp) (by simp) (by omega) (by omega)
    · intro i acc S' _ hi
      have := nxL_is (rows.map Rw.d) i (by simpa using hi)
      simpa using this
    · rintro i acc S' hi ⟨rfl, at1⟩ e
      refine ⟨_, rfl, ?_⟩
      have ei : (rows.map Rw.d).getD i .non = rows[i].d := by simp [hi]
      have g : rows[i]? = some rows[i] := List.getElem?_eq_getElem hi
      rw [ei, flA_succ g]
      cases hr : rows[i] with
      | set n t => simp [wipeE, Rw.d, k_CHECK, Rw.own, e]; exact at1.set _
      | give n t => simp [wipeE, Rw.d, k_CHECK, Rw.own, e]; exact at1.set _
      | drop n => simp [wipeE, Rw.d, k_CHECK, Rw.own, e]; exact at1.set _
      | check t => simp [wipeE, Rw.d, k_CHECK, Rw.own, e]; exact at1
    · rintro acc S' ⟨rfl, at1⟩ e
      rw [flA_all] at at1
      exact ⟨rfl, at1⟩
  · rintro d S1 ⟨rfl, at1⟩
    refine (for_tup rows Rw.d (fun i ρ S' => At S (((rows.map Rw.own).flatten).map D.str ++ flA (fun r => r.txt.nms) rows i) S' ∧ ∃ a, ρ = [some (.tup (rows.map Rw.d)), some (.ref S.length), a])
      (Q := fun o S' => At S ((allN rows).map .str) S' ∧ ∃ a, o = .nx [some (.tup (rows.map Rw.d)), some (.ref S.length), a]) ⟨by rw [flA_0, List.append_nil]; exact at1, none, rfl⟩ ?_ ?_).thn ?_
    · rintro i r ρ S2 hr ⟨at2, a, rfl⟩
      have hm := List.mem_of_getElem? hr
      have bi := flA_len (f := fun r : Rw => r.txt.nms) (l := rows) (i := i + 1)
      rw [flA_succ hr, List.length_append, List.length_map] at bi
      simp only [flA_succ hr, ← List.append_assoc]
      simp [ty_list at2.get, -List.map_flatten, -List.append_assoc]
      refine text_of_row_ok.thn ?_
      rintro d S3 ⟨rfl, rfl⟩
      refine (names_text_ok 8 r.txt S3 (hd r hm) (by omega)).thn ?_
      rintro d S4 ⟨rfl, at3⟩
      have at4 := at2.ext at3.pre
      rw [extend_is at4.get at3.get (by simp only [List.length_append, List.length_map, lim_is]; omega)]
      have at5 := at4.set ((((rows.map Rw.own).flatten).map D.str ++ flA (fun r => r.txt.nms) rows i) ++ r.txt.nms.map D.str)
      simpa [-List.map_flatten] using at5
    · rintro ρ S2 ⟨at2, a, rfl⟩
      rw [flA_all, ← List.map_append] at at2
      exact ⟨at2, a, rfl⟩
    · rintro o S2 ⟨at2, a, rfl⟩
      simp [strsOf_is at2.get, few]
      exact at2.pre.trans (List.prefix_append _ _)
structure FileOk (rows : List Rw) : Prop where
  len : rows.length ≤ 40
  ok : ∀ r ∈ rows, r.ok = true
  few : (allN rows).length < 4000
  nms : (dedT (allN rows)).length ≤ 12
theorem Rw.dep_ok {r : Rw} (h : r.ok = true) : r.txt.dep ≤ 4 := by
  cases r with
  | drop n => simp [Rw.txt, Tx.dep]
  | set n t => simp only [Rw.ok, Tx.ok4, Bool.and_eq_true] at h; exact Tx.dep_ok t 3 h.2.2
  | give n t => simp only [Rw.ok, Tx.ok4, Bool.and_eq_true] at h; exact Tx.dep_ok t 3 h.2.2
  | check t => simp only [Rw.ok, Tx.ok4, Bool.and_eq_true] at h; exact Tx.dep_ok t 3 h.2
theorem need_file_ok {rows : List Rw} {S : Store} (h : FileOk rows) : Ends (C_need_file [.tup (rows.map Rw.d)] S) fun d S' => d = .tup (rows.map Rw.d) ∧ S <+: S' := by
  have e1 : ¬ (40 : Int) < ((rows.length : Nat) : Int) := by have := h.len; omega
  simp [C_need_file, B_need_file, startE, k_MOST_ROWS, e1]
  refine (for_enum rows Rw.d (fun i ρ S' => S <+: S' ∧ ∃ a b, ρ = [some (.tup (rows.map Rw.d)), a, b]) (Q := fun o S' => S <+: S' ∧ ∃ a b, o = .nx [some (.tup (rows.map Rw.d)), a, b]) ⟨List.prefix_refl _, none, none, rfl⟩ ?_ ?_).thn ?_
  · rintro i r ρ S1 hr ⟨x1, a, b, rfl⟩
    simp
    refine (is_row_ok (h.ok r (List.mem_of_getElem? hr))).thn ?_
    rintro d S2 ⟨rfl, x2⟩
    simpa using x1.trans x2
  · rintro ρ S1 ⟨x1, a, b, rfl⟩
    exact ⟨x1, a, b, rfl⟩
  · rintro o S1 ⟨x1, a, b, rfl⟩
    simp
    refine (names_in_ok (fun r hr => by have := Rw.dep_ok (h.ok r hr); omega) h.few (by have := h.len; omega)).thn ?_
    rintro d S2 ⟨k, rfl, hk, x2⟩
    have e2 : ¬ (12 : Int) < (((sortT (dedT (allN rows))).length : Nat) : Int) := by
      have := h.nms
      rw [(sortT_perm _).length_eq]
      omega
    simp [lenF_ref _ _ _ hk, k_MOST_NAMES, e2]
    exact x1.trans x2
end LK06

set_option Elab.async false
set_option linter.all false
set_option maxRecDepth 100000
set_option maxHeartbeats 1000000
namespace LK06
open Al
def pb : Nat → Nat
  | 0 => 20
  | M + 1 => 13 + 8 * pb M
theorem pb_ge : ∀ M, 20 ≤ pb M
  | 0 => by simp [pb]
  | M + 1 => by have := pb_ge M; simp only [pb]; omega
theorem name_len {n : List Nat} (h : nameB n = true) : n.length ≤ 8 := by
  simp only [nameB, Bool.and_eq_true, decide_eq_true_eq] at h
  exact h.1.1.2
theorem sgn_len {s : List Nat} (h : s ∈ sgns) : s.length ≤ 2 := by
  simp only [sgns, List.mem_cons, List.not_mem_nil, or_false] at h
  rcases h with rfl | rfl | rfl | rfl | rfl | rfl | rfl | rfl | rfl <;> simp
mutual
theorem Pc.wr_len : ∀ (p : Pc) (M : Nat), p.ok M = true → p.wr.length ≤ pb M
  | .pl x, M, h => by
    simp only [Pc.ok, plainB, Bool.and_eq_true, decide_eq_true_eq] at h
    have := pb_ge M
    simp only [Pc.wr]; omega
  | .pt n s t, M, h => by
    simp only [Pc.ok, Bool.and_eq_true, decide_eq_true_eq] at h
    have a := name_len h.1.1
    have b := sgn_len h.1.2
    rw [wr_pt]
    simp only [List.length_cons, List.length_append, List.length_nil]
    have c := pb_ge M
    have h2 := h.2
    split at h2
    · rename_i e
      cases t with
      | nil => simp only [Tx.wr, List.length_nil]; subst e; simp only [List.length_nil]; omega
      | cons p t => simp [Tx.isNil] at h2
    · simp only [Bool.and_eq_true, decide_eq_true_eq] at h2
      have d := Tx.wr_len t (M - 1) h2.2
      obtain ⟨M', rfl⟩ : ∃ M', M = M' + 1 := ⟨M - 1, by have := h2.1.1; omega⟩
      simp only [Nat.add_sub_cancel] at d
      simp only [pb]
      have e := Nat.mul_le_mul_right (pb M') h2.1.2
      omega
theorem Tx.wr_len : ∀ (t : Tx) (M : Nat), t.ok M = true → t.wr.length ≤ t.l.length * pb M
  | .nil, M, h => by simp [Tx.wr]
  | .cons p t, M, h => by
    simp only [Tx.ok, Bool.and_eq_true] at h
    have a := Pc.wr_len p M h.1.1
    have b := Tx.wr_len t M h.2
    simp only [Tx.wr, Tx.l, List.length_append, List.length_cons, Nat.succ_mul]
    omega
end
theorem wr_len4 {t : Tx} (h : t.ok4 = true) : t.wr.length ≤ 89512 := by
  simp only [Tx.ok4, Bool.and_eq_true, decide_eq_true_eq] at h
  have a := Tx.wr_len t 3 h.2
  have b := Nat.mul_le_mul_right (pb 3) h.1
  have c : 8 * pb 3 = 89512 := by decide
  omega
theorem written4 {t : Tx} {S : Store} (h : t.ok4 = true) : Ends (C_written 8 [.tup t.ds] S) fun d S' => d = .str t.wr ∧ S <+: S' := by
  have z := wr_len4 h
  simp only [Tx.ok4, Bool.and_eq_true, decide_eq_true_eq] at h
  have d := Tx.dep_ok t 3 h.2
  exact written_ok 8 t 3 S h.1 h.2 (by omega) (by omega)
theorem text_of_ok {t : Tx} {S : Store} (h : t.ok4 = true) : Ends (C_text_of [.tup t.ds] S) fun d S' => d = .str t.wr ∧ S <+: S' := by
  simp [C_text_of, B_text_of, startE]
  refine (is_text_ok h).thn ?_
  rintro d S1 ⟨rfl, x1⟩
  simp
  refine (written4 h).mono ?_
  rintro d S2 ⟨rfl, x2⟩
  exact ⟨rfl, x1.trans x2⟩
def Rw.wr : Rw → List Nat
  | .set n t => n ++ 61 :: t.wr
  | .give n t => n ++ 63 :: 61 :: t.wr
  | .drop n => 100 :: 114 :: 111 :: 112 :: 32 :: n
  | .check t => 99 :: 104 :: 101 :: 99 :: 107 :: 32 :: t.wr
theorem Rw.wr_len {r : Rw} (h : r.ok = true) : r.wr.length ≤ 90000 := by
  cases r with
  | set n t =>
    simp only [Rw.ok, Bool.and_eq_true] at h
    have a := name_len h.1; have b := wr_len4 h.2
    simp only [Rw.wr, List.length_append, List.length_cons]; omega
  | give n t =>
    simp only [Rw.ok, Bool.and_eq_true] at h
    have a := name_len h.1; have b := wr_len4 h.2
    simp only [Rw.wr, List.length_append, List.length_cons]; omega
  | drop n =>
    simp only [Rw.ok] at h
    have a := name_len h
    simp only [Rw.wr, List.length_cons]; omega
  | check t =>
    simp only [Rw.ok] at h
    have b := wr_len4 h
    simp only [Rw.wr, List.length_cons]; omega
theorem row_text_ok {r : Rw} {S : Store} (h : r.ok = true) : Ends (C_row_text [r.d] S) fun d S' => d = .str r.wr ∧ S <+: S' := by
  cases r with
  | set n t =>
    simp only [Rw.ok, Bool.and_eq_true] at h
    have a := name_len h.1; have b := wr_len4 h.2
    have b1 : n.length + 1 ≤ 16777216 := by omega
    simp [C_row_text, B_row_text, startE, Rw.d, k_DROP, k_CHECK, k_SET, k_EQUALS, b1]
    refine (written4 h.2).thn ?_
    rintro d S1 ⟨rfl, x1⟩
    have b2 : n.length + 1 + t.wr.length ≤ 16777216 := by omega
    simp [b2, Rw.wr]
    exact x1
  | give n t =>
    simp only [Rw.ok, Bool.and_eq_true] at h
    have a := name_len h.1; have b := wr_len4 h.2
    have b1 : n.length + 2 ≤ 16777216 := by omega
    simp [C_row_text, B_row_text, startE, Rw.d, k_DROP, k_CHECK, k_SET, k_GIVEN, b1]
    refine (written4 h.2).thn ?_
    rintro d S1 ⟨rfl, x1⟩
    have b2 : n.length + 2 + t.wr.length ≤ 16777216 := by omega
    simp [b2, Rw.wr]
    exact x1
  | drop n =>
    simp only [Rw.ok] at h
    have a := name_len h
    have b1 : 5 + n.length ≤ 16777216 := by omega
    simp [C_row_text, B_row_text, startE, Rw.d, k_DROP, k_BLANK, b1, Rw.wr]
  | check t =>
    simp only [Rw.ok] at h
    have b := wr_len4 h
    simp [C_row_text, B_row_text, startE, Rw.d, k_DROP, k_CHECK, k_BLANK]
    refine (written4 h).thn ?_
    rintro d S1 ⟨rfl, x1⟩
    have b2 : 6 + t.wr.length ≤ 16777216 := by omega
    simp [b2, Rw.wr]
    exact x1
/-- [f(x) for x in a tuple], f pure -/
theorem lc_tup {α : Type} (l : List α) (gd : α → D) {v : Nat} {el : EF} {ρ : Env} {S : Store} (g : α → D) (small : l.length < lim)
    (h : ∀ a ∈ l, ∀ S', Ends (el (ρ.set v (some (gd a))) S') fun d S'' => d = g a ∧ S' <+: S'') :
    Ends (lcF (fun i _ => nxL (l.map gd) i) (.nm v) tYesF el S.length (l.length + 1) 0 ρ (S ++ [.lst []])) fun d S' => d = .ref S.length ∧ At S (l.map g) S' := by
  refine lc_ends l.length (fun i => (l.map gd).getD i .non) (fun i acc S' => acc = (l.map g).take i ∧ At S acc S') small ?_ ?_ ?_ _ 0 [] _ ⟨by simp, At.new⟩ (by simp) (by simp) (by omega) (by omega)
  · intro i acc S' _ hi
    have := nxL_is (l.map gd) i (by simpa using hi)
    simpa using this
  · rintro i acc S' hi ⟨rfl, at1⟩ e
    refine ⟨_, rfl, ?_⟩
    have ei : (l.map gd).getD i .non = gd l[i] := by simp [hi]
    rw [ei]
    simp only [ev_tYes, ends_ok, if_true]
    refine (h l[i] (List.getElem_mem hi) _).mono ?_
    rintro d S'' ⟨rfl, x⟩
    have at2 := at1.ext x
    exact ⟨at2.get, take_snoc (by rw [List.getElem?_map, List.getElem?_eq_getElem hi]; rfl), at2.set _⟩
  · rintro acc S' ⟨rfl, at1⟩ e
    rw [List.take_of_length_le (by simp)] at at1
    exact ⟨rfl, at1⟩
def fwr (rows : List Rw) : List Nat := joinL [10] (rows.map Rw.wr)
theorem sum_le {l : List (List Nat)} {b : Nat} (h : ∀ x ∈ l, x.length ≤ b) : (l.map List.length).sum ≤ l.length * b := by
  induction l with
  | nil => simp
  | cons x l ih =>
    have := ih fun y hy => h y (List.mem_cons_of_mem _ hy)
    have := h x (List.mem_cons_self ..)
    simp only [List.map_cons, List.sum_cons, List.length_cons, Nat.succ_mul]
    omega
theorem fwr_bound {rows : List Rw} (h : FileOk rows) : ((rows.map Rw.wr).map List.length).sum + (rows.map Rw.wr).length * ([10] : List Nat).length ≤ lim := by
  have a := sum_le (l := rows.map Rw.wr) (b := 90000) (by
    intro x hx
    obtain ⟨r, hr, rfl⟩ := List.mem_map.mp hx
    exact Rw.wr_len (h.ok r hr))
  have b := h.len
  simp only [List.length_map] at a ⊢
  have c := Nat.mul_le_mul_right 90000 b
  simp only [List.length_cons, List.length_nil, lim_is]
  omega
theorem file_text_ok {rows : List Rw} {S : Store} (h : FileOk rows) : Ends (C_file_text [.tup (rows.map Rw.d)] S) fun d S' => d = .str (fwr rows) ∧ S <+: S' := by
  simp [C_file_text, B_file_text, startE, k_NEWLINE]
  refine (need_file_ok h).thn ?_
  rintro d S1 ⟨rfl, x1⟩
  simp
  refine (lc_tup rows Rw.d (fun r => D.str r.wr) (by have := h.len; simp only [lim_is]; omega) ?_).thn ?_
  · intro r hr S'
    simp [wipeE]
    exact row_text_ok (h.ok r hr)
  · rintro d S2 ⟨rfl, at2⟩
    have g := at2.get
    rw [show (rows.map fun r => D.str r.wr) = (rows.map Rw.wr).map D.str by simp] at g
    rw [join_is g (fwr_bound h)]
    simp [fwr]
    exact x1.trans at2.pre
end LK06

set_option Elab.async false
set_option linter.all false
set_option maxRecDepth 100000
set_option maxHeartbeats 1000000
namespace LK06
open Al
/-- the written form of the first pieces -/
def wrA (l : List Pc) (i : Nat) : List Nat := ((l.take i).map Pc.wr).flatten
theorem wrA_0 (l : List Pc) : wrA l 0 = [] := by simp [wrA]
theorem wrA_succ {l : List Pc} {i : Nat} {p : Pc} (h : l[i]? = some p) : wrA l (i + 1) = wrA l i ++ p.wr := by unfold wrA; rw [← take_flat h]
theorem wrA_all (t : Tx) : wrA t.l t.l.length = t.wr := by unfold wrA; rw [List.take_length, ← Tx.wr_eq]
theorem wrA_len (t : Tx) (i : Nat) : (wrA t.l i).length ≤ t.wr.length := by
  unfold wrA
  rw [Tx.wr_eq]
  conv => rhs; rw [← List.take_append_drop i t.l, List.map_append, List.flatten_append, List.length_append]
  omega
theorem law_written_ok : ∀ (n : Nat) (t : Tx) (S : Store), t.dep < n → t.wr.length ≤ 1000000 → Ends (C__law_written n [.tup t.ds] S) fun d S' => d = .str t.wr ∧ S' = S
  | 0, t, S, h, z => absurd h (by omega)
  | n + 1, t, S, h, z => by
    simp [C__law_written, B__law_written, startE, ds_map]
    refine (for_tup t.l Pc.d (fun i ρ S' => S' = S ∧ ∃ a, ρ = [some (.tup (t.l.map Pc.d)), some (.str (wrA t.l i)), a]) (Q := fun o S' => S' = S ∧ ∃ a, o = .nx [some (.tup (t.l.map Pc.d)), some (.str t.wr), a])
      ⟨rfl, none, by rw [wrA_0]⟩ ?_ ?_).thn ?_
    · rintro i p ρ S1 hp ⟨rfl, a, rfl⟩
      have hm := List.mem_of_getElem? hp
      have bi := wrA_len t (i + 1)
      rw [wrA_succ hp, List.length_append] at bi
      rw [wrA_succ hp]
      cases p with
      | pl x =>
        have b1 : (wrA t.l i).length + x.length ≤ 16777216 := by simp only [Pc.wr] at bi; omega
        simp [Pc.d, b1, Pc.wr]
      | pt n' s t' =>
        have d1 := Tx.dep_mem hm
        simp only [Pc.dep] at d1
        rw [wr_pt] at bi
        simp only [List.length_cons, List.length_append, List.length_nil] at bi
        have b1 : (wrA t.l i).length + 1 ≤ 16777216 := by omega
        have b2 : (wrA t.l i).length + 1 + 1 ≤ 16777216 := by omega
        have b2' : (wrA t.l i).length + 2 + n'.length ≤ 16777216 := by omega
        have b3 : (wrA t.l i).length + 1 + 1 + n'.length ≤ 16777216 := by omega
        have b4 : (wrA t.l i).length + (n'.length + 1 + 1) + s.length ≤ 16777216 := by omega
        simp only [Pc.d]
        simp [b1, b2, b2', b3, b4]
        refine (law_written_ok n t' S1 (by omega) (by omega)).thn ?_
        rintro d S2 ⟨rfl, rfl⟩
        have b5 : (wrA t.l i).length + (n'.length + s.length + 1 + 1) + t'.wr.length ≤ 16777216 := by omega
        have b6 : (wrA t.l i).length + (n'.length + (s.length + t'.wr.length) + 1 + 1) + 1 ≤ 16777216 := by omega
        have b7 : (wrA t.l i).length + (n'.length + (s.length + t'.wr.length) + 1 + 1) ≤ 16777215 := by omega
        simp [b5, b6, b7, wr_pt]
    · rintro ρ S1 ⟨rfl, a, rfl⟩
      rw [wrA_all]
      exact ⟨rfl, a, rfl⟩
    · rintro o S1 ⟨rfl, a, rfl⟩
      simp
theorem law_written4 {t : Tx} {S : Store} (h : t.ok4 = true) : Ends (C__law_written 8 [.tup t.ds] S) fun d S' => d = .str t.wr ∧ S' = S := by
  have z := wr_len4 h
  simp only [Tx.ok4, Bool.and_eq_true, decide_eq_true_eq] at h
  have d := Tx.dep_ok t 3 h.2
  exact law_written_ok 8 t S (by omega) (by omega)
theorem law_row_written_ok {r : Rw} {S : Store} (h : r.ok = true) : Ends (C__law_row_written [r.d] S) fun d S' => d = .str r.wr ∧ S' = S := by
  cases r with
  | set n t =>
    simp only [Rw.ok, Bool.and_eq_true] at h
    have a := name_len h.1; have b := wr_len4 h.2
    have b1 : n.length + 1 ≤ 16777216 := by omega
    simp [C__law_row_written, B__law_row_written, startE, Rw.d, b1]
    refine (law_written4 h.2).thn ?_
    rintro d S1 ⟨rfl, rfl⟩
    have b2 : n.length + 1 + t.wr.length ≤ 16777216 := by omega
    simp [b2, Rw.wr]
  | give n t =>
    simp only [Rw.ok, Bool.and_eq_true] at h
    have a := name_len h.1; have b := wr_len4 h.2
    have b1 : n.length + 2 ≤ 16777216 := by omega
    simp [C__law_row_written, B__law_row_written, startE, Rw.d, b1]
    refine (law_written4 h.2).thn ?_
    rintro d S1 ⟨rfl, rfl⟩
    have b2 : n.length + 2 + t.wr.length ≤ 16777216 := by omega
    simp [b2, Rw.wr]
  | drop n =>
    simp only [Rw.ok] at h
    have a := name_len h
    have b1 : 5 + n.length ≤ 16777216 := by omega
    simp [C__law_row_written, B__law_row_written, startE, Rw.d, b1, Rw.wr]
  | check t =>
    simp only [Rw.ok] at h
    have b := wr_len4 h
    simp [C__law_row_written, B__law_row_written, startE, Rw.d]
    refine (law_written4 h).thn ?_
    rintro d S1 ⟨rfl, rfl⟩
    have b2 : 6 + t.wr.length ≤ 16777216 := by omega
    simp [b2, Rw.wr]
end LK06

set_option Elab.async false
set_option linter.all false
set_option maxRecDepth 100000
set_option maxHeartbeats 1000000
namespace LK06
open Al
/-! ### data without lists -/
def flat : Nat → D → Bool
  | 0, _ => false
  | n + 1, d => match d with
    | .str x => strsOk x
    | .tup ds => ds.all (flat n)
    | .int _ => true
    | _ => false
theorem mapO_ex {α β : Type} {f : α → Option β} : ∀ (l : List α), (∀ x ∈ l, ∃ y, f x = some y) → ∃ ys, mapO f l = some ys ∧ ys.length = l.length
  | [], _ => ⟨[], rfl, rfl⟩
  | x :: l, h => by
    obtain ⟨y, hy⟩ := h x (List.mem_cons_self ..)
    obtain ⟨ys, h1, h2⟩ := mapO_ex l fun z hz => h z (List.mem_cons_of_mem _ hz)
    exact ⟨y :: ys, by simp only [mapO, hy, h1], by simp [h2]⟩
theorem mapO_congr {α β : Type} {f g : α → Option β} : ∀ (l : List α), (∀ x ∈ l, f x = g x) → mapO f l = mapO g l
  | [], _ => rfl
  | x :: l, h => by
    simp only [mapO]
    rw [h x (List.mem_cons_self ..), mapO_congr l fun z hz => h z (List.mem_cons_of_mem _ hz)]
theorem flat_toP : ∀ (n : Nat) (d : D), flat n d = true → (∃ p, toP n [] d = some p) ∧ ∀ S, toP n S d = toP n [] d
  | 0, d, h => by cases h
  | n + 1, d, h => by
    cases d with
    | str x =>
      have h : strsOk x = true := h
      refine ⟨⟨.str (toS x), ?_⟩, fun S => rfl⟩
      show (if strsOk x = true then some (PySem.PyData.str (toS x)) else none) = _
      rw [if_pos h]
    | int i => exact ⟨⟨_, rfl⟩, fun S => rfl⟩
    | tup ds =>
      have h : ds.all (flat n) = true := h
      rw [List.all_eq_true] at h
      obtain ⟨ps, e, _⟩ := mapO_ex (f := toP n []) ds fun d hd => (flat_toP n d (h d hd)).1
      refine ⟨⟨.tuple ps, ?_⟩, fun S => ?_⟩
      · show (mapO (toP n []) ds).map PySem.PyData.tuple = _
        rw [e]; rfl
      · show (mapO (toP n S) ds).map PySem.PyData.tuple = (mapO (toP n []) ds).map PySem.PyData.tuple
        rw [mapO_congr ds fun d hd => (flat_toP n d (h d hd)).2 S]
    | non => cases h
    | bl b => cases h
    | ref m => cases h
    | scl ds => cases h
/-- xs != [] -/
theorem ne_nil {S : Store} {r e : Nat} {A : List D} (h1 : S[r]? = some (.lst A)) (h2 : S[e]? = some (.lst [])) (hf : ∀ d ∈ A, flat 59 d = true) : neO (.ref r) (.ref e) S = some (.bl (!A.isEmpty), S) := by
  obtain ⟨ps, e1, e2⟩ := mapO_ex (f := toP 59 S) A fun d hd => by
    obtain ⟨⟨p, hp⟩, hs⟩ := flat_toP 59 d (hf d hd)
    exact ⟨p, (hs S).trans hp⟩
  have t1 : toP 60 S (.ref r) = some (.list ps) := by
    show (match S[r]? with | some (.lst xs) => (mapO (toP 59 S) xs).map PySem.PyData.list | _ => none) = _
    rw [h1]
    show (mapO (toP 59 S) A).map PySem.PyData.list = _
    rw [e1]; rfl
  have t2 : toP 60 S (.ref e) = some (.list []) := by
    show (match S[e]? with | some (.lst xs) => (mapO (toP 59 S) xs).map PySem.PyData.list | _ => none) = _
    rw [h2]; rfl
  show (match toP 60 S (.ref r), toP 60 S (.ref e) with | some p, some q => some (D.bl (!PySem.PyData.eqv p q), S) | _, _ => none) = _
  rw [t1, t2]
  cases A with
  | nil =>
    have : ps = [] := by simpa using e2
    subst this
    rfl
  | cons a A =>
    cases ps with
    | nil => simp at e2
    | cons p ps => rfl
/-! ### signs of a line -/
theorem need_sign_ok {L g : List Nat} {k c : Nat} {r : D} {S : Store} (z : L.length ≤ 16777216) (hk : L[k]? = some c) (hc : c ∈ g) : Ends (C_need_sign [.str L, .int (k : Nat), .str g, r] S) fun d S' => d = .non ∧ S' = S := by
  have hl : k < L.length := (List.getElem?_eq_some_iff.mp hk).1
  have e : ¬ ((L.length : Nat) : Int) ≤ (k : Int) := by omega
  simp [C_need_sign, B_need_sign, startE, z, e, L2.atI_nat hk, hc]
theorem cut_is {L : List Nat} {a b : Nat} (h1 : a ≤ b) (h2 : b ≤ L.length) : cutL L (some (a : Int)) (some (b : Int)) = (L.drop a).take (b - a) := by
  unfold cutL
  rw [HT.sIx_nat, HT.sIx_nat, Nat.min_eq_left h2, Nat.min_eq_left (by omega : a ≤ L.length)]
theorem mid_get (a b c : List Nat) (i : Nat) (h : i < b.length) : (a ++ (b ++ c))[a.length + i]? = b[i]? := by
  rw [List.getElem?_append_right (by omega), Nat.add_sub_cancel_left, List.getElem?_append_left h]
def notName (rest : List Nat) : Prop := ∀ c, rest.head? = some c → c ∉ caps ++ [95]
theorem name_parts {n : List Nat} (h : nameB n = true) : 1 ≤ n.length ∧ n.length ≤ 8 ∧ (∀ i c : Nat, n[i]? = some c → c ∈ caps ++ [95]) ∧ ∀ c : Nat, n[0]? = some c → c ∈ caps := by
  simp only [nameB, Bool.and_eq_true, decide_eq_true_eq, List.all_eq_true] at h
  obtain ⟨⟨⟨h1, h2⟩, h3⟩, h4⟩ := h
  refine ⟨h1, h2, fun i c e => h4 c (List.mem_of_getElem? e), fun c e => ?_⟩
  have m := h4 c (List.mem_of_getElem? e)
  have ne : c ≠ 95 := by
    rintro rfl
    apply h3
    cases n with
    | nil => simp at h1
    | cons x n => simpa using e
  simpa [ne] using m
theorem name_at_ok {pre n rest : List Nat} {r : D} {S : Store} (hn : nameB n = true) (hr : notName rest) (z : (pre ++ (n ++ rest)).length ≤ 16777216) :
    Ends (C_name_at [.str (pre ++ (n ++ rest)), .int (pre.length : Nat), r] S) fun d S' => d = .tup [.str n, .int ((pre.length + n.length : Nat) : Int)] ∧ S' = S := by
  obtain ⟨n1, n8, nc, n0⟩ := name_parts hn
  have g0 : (pre ++ (n ++ rest))[pre.length + 0]? = n[0]? := mid_get pre n rest 0 (by omega)
  have g1 : n[0]? = some n[0] := List.getElem?_eq_getElem (by omega)
  simp only [Nat.add_zero] at g0
  simp only [C_name_at, B_name_at, ev_body, startE, ev_seq, ev_expr, ev_callD, k_CAPITALS]
  simp
  refine (need_sign_ok z (g0.trans g1) (n0 _ g1)).thn ?_
  rintro d S1 ⟨rfl, rfl⟩
  generalize hL : pre ++ (n ++ rest) = L at z
  have zl : L.length = pre.length + (n.length + rest.length) := by rw [← hL]; simp
  refine Ends.thn (Q := fun o S' => o = .nx [some (.str L), some (.int (pre.length : Nat)), some r, some (.int ((pre.length + n.length : Nat) : Int))] ∧ S' = S1) ?_ ?_
  · refine while_ends (fun m ρ S' => S' = S1 ∧ ∃ j, 1 ≤ j ∧ j ≤ n.length ∧ m = n.length - j ∧ ρ = [some (.str L), some (.int (pre.length : Nat)), some r, some (.int ((pre.length + j : Nat) : Int))]) ?_ (n.length - 1) _ _ _ ⟨rfl, 1, by omega, by omega, rfl, by simp⟩ (by simp only [turns]; omega)
    rintro m ρ S' ⟨rfl, j, j1, j2, rfl, rfl⟩
    by_cases hj : j = n.length
    · subst hj
      cases rest with
      | nil =>
        have e : ¬ ((pre.length : Int) + (n.length : Int)) < (L.length : Int) := by rw [zl]; simp
        simp [z, e]
      | cons c rest =>
        have e : ((pre.length : Int) + (n.length : Int)) < (L.length : Int) := by rw [zl]; simp; omega
        by_cases h8 : n.length = 8
        · have e2 : ¬ ((pre.length : Int) + (n.length : Int)) < (pre.length : Int) + 8 := by omega
          simp [z, e, k_MOST_IN_NAME, e2]
        · have e2 : ((pre.length : Int) + (n.length : Int)) < (pre.length : Int) + 8 := by omega
          have g : L[pre.length + n.length]? = some c := by rw [← hL]; simp
          have ga := L2.atI_nat g
          simp only [Int.natCast_add] at ga
          have hc := hr c rfl
          have hc2 : c ∉ [65, 66, 67, 68, 69, 70, 71, 72, 73, 74, 75, 76, 77, 78, 79, 80, 81, 82, 83, 84, 85, 86, 87, 88, 89, 90, 95] := by simpa [caps] using hc
          simp [z, e, k_MOST_IN_NAME, e2, ga, k_CAPITALS, -List.mem_cons, hc2]
    · have jl : j < n.length := by omega
      have e : ((pre.length : Int) + (j : Int)) < (L.length : Int) := by rw [zl]; omega
      have e2 : ((pre.length : Int) + (j : Int)) < (pre.length : Int) + 8 := by omega
      have g : L[pre.length + j]? = some n[j] := by rw [← hL, mid_get pre n rest j jl]; exact List.getElem?_eq_getElem jl
      have ga := L2.atI_nat g
      simp only [Int.natCast_add] at ga
      have hc := nc j n[j] (List.getElem?_eq_getElem jl)
      have hc2 : n[j] ∈ [65, 66, 67, 68, 69, 70, 71, 72, 73, 74, 75, 76, 77, 78, 79, 80, 81, 82, 83, 84, 85, 86, 87, 88, 89, 90, 95] := by simpa [caps] using hc
      simp [z, e, k_MOST_IN_NAME, e2, ga, k_CAPITALS, -List.mem_cons, hc2]
      exact ⟨n.length - (j + 1), by omega, j + 1, by omega, by omega, rfl, by omega⟩
  · rintro o S2 ⟨rfl, rfl⟩
    have c1 : cutL L (some ((pre.length : Nat) : Int)) (some ((pre.length + n.length : Nat) : Int)) = n := by
      rw [cut_is (by omega) (by omega), ← hL]
      simp
    simp at c1
    simp [z, c1]
end LK06

set_option Elab.async false
set_option linter.all false
set_option maxRecDepth 100000
set_option maxHeartbeats 1000000
namespace LK06
open Al
/-- what stands behind a name: the sign, or the closing curly bracket -/
def sgx (s : List Nat) : List Nat := if s = [] then [125] else s
theorem sgx_notName {s rest : List Nat} (h : s ∈ sgns) : notName (sgx s ++ rest) := by
  intro c hc
  simp only [sgns, List.mem_cons, List.not_mem_nil, or_false] at h
  rcases h with rfl | rfl | rfl | rfl | rfl | rfl | rfl | rfl | rfl <;> (simp [sgx] at hc; subst hc; decide)
theorem ints2 (a b : Nat) : ((a : Int) + 1 : Int) = ((a + 1 : Nat) : Int) := by omega
theorem head_at_ok {pre n s rest : List Nat} {r : D} {S : Store} (hn : nameB n = true) (hs : s ∈ sgns) (z : (pre ++ 36 :: 123 :: (n ++ (sgx s ++ rest))).length ≤ 16777216) :
    Ends (C_head_at [.str (pre ++ 36 :: 123 :: (n ++ (sgx s ++ rest))), .int (pre.length : Nat), r] S) fun d S' => d = .tup [.str n, .str s, .int ((pre.length + 2 + n.length + (sgx s).length : Nat) : Int)] ∧ S' = S := by
  have e0 : pre ++ 36 :: 123 :: (n ++ (sgx s ++ rest)) = (pre ++ [36, 123]) ++ (n ++ (sgx s ++ rest)) := by simp
  have l0 : (pre ++ [36, 123]).length = pre.length + 2 := by simp
  have g1 : (pre ++ 36 :: 123 :: (n ++ (sgx s ++ rest)))[pre.length + 1]? = some 123 := by simp
  have gs : ∀ i c, (sgx s)[i]? = some c → (pre ++ 36 :: 123 :: (n ++ (sgx s ++ rest)))[pre.length + 2 + n.length + i]? = some c := by
    intro i c hi
    have : i < (sgx s).length := (List.getElem?_eq_some_iff.mp hi).1
    rw [e0, ← List.append_assoc, show pre.length + 2 + n.length + i = (pre ++ [36, 123] ++ n).length + i by simp; omega, mid_get _ _ _ _ this]
    exact hi
  have na := name_at_ok (pre := pre ++ [36, 123]) (r := r) (S := S) hn (sgx_notName (rest := rest) hs) (by rw [← e0]; exact z)
  rw [← e0, l0] at na
  generalize hL : pre ++ 36 :: 123 :: (n ++ (sgx s ++ rest)) = L at *
  have q1 : ((pre.length : Int) + 1) = ((pre.length + 1 : Nat) : Int) := by omega
  have q2 : ((pre.length : Int) + 2) = ((pre.length + 2 : Nat) : Int) := by omega
  simp only [C_head_at, B_head_at, ev_body, startE, k_CURLY, k_END, k_KINDS, k_COLON]
  simp only [List.map_cons, List.map_nil, List.length_cons, List.length_nil, List.replicate, List.cons_append, List.nil_append, Nat.reduceSub, Nat.reduceAdd]
  simp [q1, -Int.natCast_add]
  refine (need_sign_ok z g1 (by simp)).thn ?_
  rintro d S1 ⟨rfl, rfl⟩
  simp [q2, -Int.natCast_add]
  refine na.thn ?_
  rintro d S2 ⟨rfl, rfl⟩
  simp [tgD, setAll, -Int.natCast_add]
  have key : ∀ c, (sgx s)[0]? = some c → c ∈ [45, 43, 63, 61, 58, 125] := by
    simp only [sgns, List.mem_cons, List.not_mem_nil, or_false] at hs
    rcases hs with rfl | rfl | rfl | rfl | rfl | rfl | rfl | rfl | rfl <;> simp [sgx]
  have h0 : ∃ c, (sgx s)[0]? = some c := by
    unfold sgx
    cases s with
    | nil => exact ⟨125, rfl⟩
    | cons a s => exact ⟨a, by simp⟩
  obtain ⟨c0, hc0⟩ := h0
  have g2 := gs 0 c0 hc0
  simp only [Nat.add_zero] at g2
  refine (need_sign_ok z g2 (key c0 hc0)).thn ?_
  rintro d S3 ⟨rfl, rfl⟩
  have a2 := L2.atI_nat g2
  simp [z, a2, -Int.natCast_add]
  have q3 : (((pre.length + 2 + n.length : Nat) : Int) + 1) = ((pre.length + 2 + n.length + 1 : Nat) : Int) := by omega
  have q4 : (((pre.length + 2 + n.length : Nat) : Int) + 2) = ((pre.length + 2 + n.length + 2 : Nat) : Int) := by omega
  by_cases es : s = []
  · subst es
    have : c0 = 125 := by simpa [sgx] using hc0.symm
    subst this
    simp [sgx]
  · have sx : sgx s = s := by unfold sgx; rw [if_neg es]
    rw [sx] at hc0 gs ⊢
    by_cases e58 : c0 = 58
    · subst e58
      obtain ⟨k, rfl, hk⟩ : ∃ k, s = [58, k] ∧ k ∈ [45, 43, 63, 61] := by
        simp only [sgns, List.mem_cons, List.not_mem_nil, or_false] at hs
        rcases hs with rfl | rfl | rfl | rfl | rfl | rfl | rfl | rfl | rfl <;> simp at hc0 <;> simp
      have g3 := gs 1 k rfl
      simp [z, a2, q3, -Int.natCast_add]
      refine (need_sign_ok z g3 hk).thn ?_
      rintro d S4 ⟨rfl, rfl⟩
      have a3 := L2.atI_nat g3
      simp [a3, q4, z, -Int.natCast_add]
    · obtain ⟨rfl⟩ : s = [c0] := by
        simp only [sgns, List.mem_cons, List.not_mem_nil, or_false] at hs
        rcases hs with rfl | rfl | rfl | rfl | rfl | rfl | rfl | rfl | rfl <;> simp at hc0 <;> first | (subst hc0; rfl) | exact absurd hc0.symm e58 | skip
        all_goals simp at es
      have n125 : c0 ≠ 125 := by
        rintro rfl
        simp [sgns] at hs
      simp [z, a2, e58, n125, q3, -Int.natCast_add]
end LK06

set_option Elab.async false
set_option linter.all false
set_option maxRecDepth 100000
set_option maxHeartbeats 1000000
namespace LK06
open Al
/-! ### the reader's stack -/
structure Sk (S0 : Store) (hN sN : Nat) (hs : List D) (fr : List (Nat × List D)) (S : Store) : Prop where
  pre : S0 <+: S
  nd : (hN :: sN :: fr.map (·.1)).Nodup
  ge : ∀ n ∈ hN :: sN :: fr.map (·.1), S0.length ≤ n
  hd : S[hN]? = some (.lst hs)
  st : S[sN]? = some (.lst (fr.map fun f => .ref f.1))
  at_ : ∀ f ∈ fr, S[f.1]? = some (.lst f.2)
theorem pre_set {S0 S : Store} {n : Nat} {o : O} (h : S0 <+: S) (l : S0.length ≤ n) : S0 <+: S.set n o := by
  obtain ⟨T, rfl⟩ := h
  rw [List.set_append_right _ _ l]
  exact List.prefix_append _ _
section
variable {S0 S S' : Store} {hN sN r : Nat} {hs : List D} {fr : List (Nat × List D)} {A B : List D}
theorem Sk.grow (h : Sk S0 hN sN hs fr S) (x : S <+: S') : Sk S0 hN sN hs fr S' :=
  ⟨h.pre.trans x, h.nd, h.ge, pre_get x h.hd, pre_get x h.st, fun f hf => pre_get x (h.at_ f hf)⟩
theorem lt_of_get {α : Type} {l : List α} {i : Nat} {x : α} (h : l[i]? = some x) : i < l.length := (List.getElem?_eq_some_iff.mp h).1
theorem Sk.heads (h : Sk S0 hN sN hs fr S) (hs' : List D) : Sk S0 hN sN hs' fr (S.set hN (.lst hs')) := by
  have nd := h.nd
  simp only [List.nodup_cons, List.mem_cons, not_or] at nd
  refine ⟨pre_set h.pre (h.ge hN (List.mem_cons_self ..)), h.nd, h.ge, List.getElem?_set_self (lt_of_get h.hd), ?_, fun f hf => ?_⟩
  · rw [List.getElem?_set_ne nd.1.1]; exact h.st
  · rw [List.getElem?_set_ne (fun e => nd.1.2 (by rw [e]; exact List.mem_map_of_mem hf))]; exact h.at_ f hf
theorem Sk.top (h : Sk S0 hN sN hs (fr ++ [(r, A)]) S) (B : List D) : Sk S0 hN sN hs (fr ++ [(r, B)]) (S.set r (.lst B)) := by
  have nd := h.nd
  simp only [List.map_append, List.map_cons, List.map_nil, List.nodup_cons, List.mem_cons, List.mem_append, List.not_mem_nil, or_false, not_or] at nd
  have nd2 := List.nodup_append.mp nd.2.2
  have hr := h.at_ (r, A) (by simp)
  refine ⟨pre_set h.pre (h.ge r (by simp)), by simpa using h.nd, by simpa using h.ge, ?_, ?_, fun f hf => ?_⟩
  · rw [List.getElem?_set_ne (Ne.symm nd.1.2.2)]; exact h.hd
  · rw [List.getElem?_set_ne (Ne.symm nd.2.1.2)]; simpa using h.st
  · rcases List.mem_append.mp hf with hf | hf
    · rw [List.getElem?_set_ne (fun e => nd2.2.2 f.1 (List.mem_map_of_mem hf) r (by simp) e.symm)]
      exact h.at_ f (List.mem_append_left _ hf)
    · rw [List.mem_singleton.mp hf]
      exact List.getElem?_set_self (lt_of_get hr)
theorem Sk.push (h : Sk S0 hN sN hs fr S) : Sk S0 hN sN hs (fr ++ [(S.length, [])]) (List.set (S ++ [O.lst []]) sN (O.lst (fr.map (fun f => D.ref f.1) ++ [D.ref S.length]))) := by
  have nd := h.nd
  simp only [List.nodup_cons, List.mem_cons, not_or] at nd
  have l1 := lt_of_get h.hd
  have l2 := lt_of_get h.st
  have l3 : ∀ f ∈ fr, f.1 < S.length := fun f hf => lt_of_get (h.at_ f hf)
  have nf : S.length ∉ fr.map (·.1) := fun e => by
    obtain ⟨f, hf, e⟩ := List.mem_map.mp e
    have := l3 f hf
    omega
  have g := h.ge sN (by simp)
  refine ⟨pre_set (h.pre.trans (List.prefix_append _ _)) g, ?_, ?_, ?_, ?_, fun f hf => ?_⟩
  · simp only [List.map_append, List.map_cons, List.map_nil, List.nodup_cons, List.mem_cons, List.mem_append, List.not_mem_nil, or_false, not_or]
    refine ⟨⟨nd.1.1, nd.1.2, by omega⟩, ⟨nd.2.1, by omega⟩, List.nodup_append.mpr ⟨nd.2.2, by simp, ?_⟩⟩
    rintro a ha b hb rfl
    rw [List.mem_singleton.mp hb] at ha
    exact nf ha
  · intro n hn
    simp only [List.map_append, List.map_cons, List.map_nil, List.mem_cons, List.mem_append, List.not_mem_nil, or_false] at hn
    rcases hn with e | e | e | e
    · exact h.ge n (by simp [e])
    · exact h.ge n (by simp [e])
    · exact h.ge n (by simp only [List.mem_cons]; exact .inr (.inr e))
    · rw [e]; exact h.pre.length_le
  · rw [List.getElem?_set_ne (Ne.symm nd.1.1), List.getElem?_append_left l1]; exact h.hd
  · rw [List.getElem?_set_self (by simp; omega)]; simp
  · rcases List.mem_append.mp hf with hf | hf
    · rw [List.getElem?_set_ne (fun e => nd.2.1 (by rw [e]; exact List.mem_map_of_mem hf)), List.getElem?_append_left (l3 f hf)]
      exact h.at_ f hf
    · rw [List.mem_singleton.mp hf, List.getElem?_set_ne (by omega)]
      simp
theorem Sk.pop (h : Sk S0 hN sN hs (fr ++ [(r, A)]) S) : Sk S0 hN sN hs fr (S.set sN (.lst (fr.map fun f => .ref f.1))) := by
  have nd := h.nd
  simp only [List.map_append, List.map_cons, List.map_nil, List.nodup_cons, List.mem_cons, List.mem_append, List.not_mem_nil, or_false, not_or] at nd
  have nd2 := List.nodup_append.mp nd.2.2
  refine ⟨pre_set h.pre (h.ge sN (by simp)), ?_, fun n hn => h.ge n ?_, ?_, ?_, fun f hf => ?_⟩
  · simp only [List.nodup_cons, List.mem_cons, not_or]
    exact ⟨⟨nd.1.1, nd.1.2.1⟩, nd.2.1.1, nd2.1⟩
  · simp only [List.mem_cons, List.map_append, List.mem_append] at hn ⊢
    rcases hn with e | e | e
    · exact .inl e
    · exact .inr (.inl e)
    · exact .inr (.inr (.inl e))
  · rw [List.getElem?_set_ne (Ne.symm nd.1.1)]; exact h.hd
  · rw [List.getElem?_set_self (lt_of_get h.st)]
  · rw [List.getElem?_set_ne (fun e => nd.2.1.1 (by rw [e]; exact List.mem_map_of_mem hf))]; exact h.at_ f (List.mem_append_left _ hf)
theorem Sk.topref (h : Sk S0 hN sN hs (fr ++ [(r, A)]) S) : ixO (.ref sN) (.int (-1)) S = some (.ref r, S) := by
  rw [ixO_ref _ _ _ _ h.st]
  simp only [List.map_append, List.map_cons, List.map_nil]
  rw [L2.atI_last]
  rfl
theorem Sk.toplist (h : Sk S0 hN sN hs (fr ++ [(r, A)]) S) : S[r]? = some (.lst A) := h.at_ (r, A) (by simp)
end
/-! ### with_plain -/
theorem with_plain_new {S : Store} {r : Nat} {A : List D} {c : Nat} (h : S[r]? = some (.lst A)) (hf : ∀ d ∈ A, flat 59 d = true) (l : A.length < 16777216) (hl : A = [] ∨ ∃ B ds, A = B ++ [.tup ds]) :
    Ends (C_with_plain [.ref r, .str [c]] S) fun d S' => ∃ T, S' = (S ++ T).set r (.lst (A ++ [.str [c]])) := by
  have h1 : (S ++ [O.lst []])[r]? = some (.lst A) := by rw [List.getElem?_append_left (lt_of_get h)]; exact h
  have h2 : (S ++ [O.lst []])[S.length]? = some (.lst []) := by simp
  have ap := append_is (y := .str [c]) h1 (by simpa using l)
  have nn := ne_nil h1 h2 hf
  have ty := ty_list h1
  have ix := ixO_ref _ (-1) _ _ h1
  rcases hl with rfl | ⟨B, ds, rfl⟩
  · simp [C_with_plain, B_with_plain, startE, nn, ty, ap]
    exact ⟨_, rfl⟩
  · rw [L2.atI_last] at ix
    simp [C_with_plain, B_with_plain, startE, nn, ty, ap, ix]
    exact ⟨_, rfl⟩
theorem with_plain_more {S : Store} {r : Nat} {A : List D} {x : List Nat} {c : Nat} (h : S[r]? = some (.lst (A ++ [.str x]))) (hf : ∀ d ∈ A ++ [.str x], flat 59 d = true) (l : x.length < 16777216) :
    Ends (C_with_plain [.ref r, .str [c]] S) fun d S' => ∃ T, S' = (S ++ T).set r (.lst (A ++ [.str (x ++ [c])])) := by
  have h1 : (S ++ [O.lst []])[r]? = some (.lst (A ++ [.str x])) := by rw [List.getElem?_append_left (lt_of_get h)]; exact h
  have h2 : (S ++ [O.lst []])[S.length]? = some (.lst []) := by simp
  have ei : L2.ixN (A ++ [D.str x]).length (-1) = some A.length := by
    unfold L2.ixN
    rw [if_neg (by decide), if_pos (by simp; omega)]
    simp
    omega
  have hp : ∀ v, lputO (.ref r) (.int (-1)) v (S ++ [O.lst []]) = some ((S ++ [O.lst []]).set r (.lst (A ++ [v]))) := by
    intro v
    show (match (S ++ [O.lst []])[r]? with | some (.lst xs) => (L2.ixN xs.length (-1)).map fun j => (S ++ [O.lst []]).set r (.lst (xs.set j v)) | _ => none) = _
    rw [h1]
    show (L2.ixN (A ++ [D.str x]).length (-1)).map _ = _
    rw [ei]
    simp
  have ll : x.length + 1 ≤ 16777216 := by omega
  simp [C_with_plain, B_with_plain, startE, ne_nil h1 h2 hf, ixO_ref _ _ _ _ h1, L2.atI_last, hp, ll]
  exact ⟨_, rfl⟩
end LK06

set_option Elab.async false
set_option linter.all false
set_option maxRecDepth 100000
set_option maxHeartbeats 1000000
namespace LK06
open Al
/-! ### the reader's loop -/
def tC : TF := tOf (eOp ltO (eVar 1) (eCall lenF (aCons (eVar 0) aNil)))
def tHead : SF := sSeq (sAsg (.tp [5, 6, 1]) (eCallD C_head_at (aCons (eVar 0) (aCons (eVar 1) (aCons (eVar 2) aNil)))))
    (sIf (tOf (eOp eqO (eVar 6) (eC (.str [])))) (sExpr (eM "list" appendM (eOp ixO (eVar 4) (eNeg (eC (.int 1)))) (aCons (eTup (aCons (eVar 5) (aCons (eVar 6) (aCons (eTup aNil) aNil)))) aNil))) (sSeq (sExpr (eM "list" appendM (eVar 3) (aCons (eTup (aCons (eVar 5) (aCons (eVar 6) aNil))) aNil)))
    (sExpr (eM "list" appendM (eVar 4) (aCons (eLst aNil) aNil)))))
def tShut : SF := sSeq (sAsg (.tp [5, 6]) (eM "list" popM (eVar 3) aNil))
    (sSeq (sSet 7 (eCall tupleF (aCons (eM "list" popM (eVar 4) aNil) aNil)))
    (sSeq (sExpr (eM "list" appendM (eOp ixO (eVar 4) (eNeg (eC (.int 1)))) (aCons (eTup (aCons (eVar 5) (aCons (eVar 6) (aCons (eVar 7) aNil)))) aNil)))
    (sAug 1 iaddO (eC (.int 1)))))
def tPlain : SF := sSeq (sExpr (eCallD C_need_sign (aCons (eVar 0) (aCons (eVar 1) (aCons (eC k_PLAIN_SIGNS) (aCons (eVar 2) aNil))))))
    (sSeq (sExpr (eCallD C_with_plain (aCons (eOp ixO (eVar 4) (eNeg (eC (.int 1)))) (aCons (eOp ixO (eVar 0) (eVar 1)) aNil))))
    (sAug 1 iaddO (eC (.int 1))))
def tB : SF := sIf (tOf (eOp eqO (eOp ixO (eVar 0) (eVar 1)) (eC k_DOLLAR))) tHead (sIf (tAndF (tOf (eOp eqO (eOp ixO (eVar 0) (eVar 1)) (eC k_END))) (tOf (eOp neO (eVar 3) (eLst aNil)))) tShut tPlain)
theorem B_text_at_eq : B_text_at = sSeq (sPar 3 4 (aCons (eLst aNil) (aCons (eLst (aCons (eLst aNil) aNil)) aNil))) (sSeq (sWhile tC tB) (sSeq (sIf (tOf (eOp neO (eVar 3) (eLst aNil))) sNever sNx) (sRet (eCall tupleF (aCons (eOp ixO (eVar 4) (eC (.int 0))) aNil))))) := rfl
/-- k turns, then so -/
def Runs (k : Nat) (ρ : Env) (S : Store) (P : Env → Store → Prop) : Prop := ∀ (fuel : Nat) (Q : Out → Store → Prop), (∀ ρ' S', P ρ' S' → Ends (whileF tC tB fuel ρ' S') Q) → Ends (whileF tC tB (fuel + k) ρ S) Q
theorem Runs.zero {ρ : Env} {S : Store} {P : Env → Store → Prop} (h : P ρ S) : Runs 0 ρ S P := fun fuel Q q => q ρ S h
theorem Runs.trans {k j : Nat} {ρ : Env} {S : Store} {P R : Env → Store → Prop} (h : Runs k ρ S P) (i : ∀ ρ' S', P ρ' S' → Runs j ρ' S' R) : Runs (k + j) ρ S R := fun fuel Q q => by
  have e : fuel + (k + j) = (fuel + j) + k := by omega
  rw [e]
  exact h (fuel + j) Q fun ρ' S' p => i ρ' S' p fuel Q q
theorem Runs.mono {k : Nat} {ρ : Env} {S : Store} {P R : Env → Store → Prop} (h : Runs k ρ S P) (i : ∀ ρ' S', P ρ' S' → R ρ' S') : Runs k ρ S R := fun fuel Q q => h fuel Q fun ρ' S' p => q ρ' S' (i ρ' S' p)
section
variable (L : List Nat) (row : D) (hN sN : Nat)
def Ev (i : Nat) (ρ : Env) : Prop := ∃ a b c, ρ = [some (.str L), some (.int (i : Nat)), some row, some (.ref hN), some (.ref sN), a, b, c]
end
variable {L : List Nat} {row : D} {hN sN : Nat}
theorem ev_mk {i : Nat} {x : D} {a b c : Option D} (h : x = .int (i : Nat)) : Ev L row hN sN i [some (.str L), some x, some row, some (.ref hN), some (.ref sN), a, b, c] := ⟨a, b, c, by rw [h]⟩
theorem Runs.step {i : Nat} {ρ : Env} {S : Store} {P : Env → Store → Prop} (e : Ev L row hN sN i ρ) (hi : i < L.length) (z : L.length ≤ 16777216) (h : Ends (tB ρ S) fun o S' => ∃ ρ', o = .nx ρ' ∧ P ρ' S') : Runs 1 ρ S P := fun fuel Q q => by
  obtain ⟨a, b, c, rfl⟩ := e
  have e1 : (i : Int) < (L.length : Int) := by omega
  show Ends (whileF tC tB (fuel + 1) _ S) Q
  unfold whileF
  have ec : tC [some (.str L), some (.int (i : Nat)), some row, some (.ref hN), some (.ref sN), a, b, c] S = .ok true S := by simp [tC, z, e1]
  rw [ec]
  simp only [Res.bind_ok, if_true]
  refine h.thn ?_
  rintro o S' ⟨ρ', rfl, p⟩
  exact q ρ' S' p
def NS (A : List D) : Prop := A = [] ∨ ∃ B ds, A = B ++ [.tup ds]
abbrev Fl (A : List D) : Prop := ∀ d ∈ A, flat 59 d = true
theorem plain_ne {c : Nat} (h : c ∈ plains) : c ≠ 36 ∧ c ≠ 125 := by
  constructor <;> (rintro rfl; revert h; decide)
variable {S0 : Store} {hs : List D} {fr : List (Nat × List D)} {r : Nat} {A : List D}
/-- one plain sign -/
theorem run_sign {i c : Nat} {ρ : Env} {S : Store} {A B : List D} (e : Ev L row hN sN i ρ) (z : L.length ≤ 16777216) (hc : L[i]? = some c) (hp : c ∈ plains) (sk : Sk S0 hN sN hs (fr ++ [(r, A)]) S)
    (wp : Ends (C_with_plain [.ref r, .str [c]] S) fun d S' => ∃ T, S' = (S ++ T).set r (.lst B)) :
    Runs 1 ρ S fun ρ' S' => Ev L row hN sN (i + 1) ρ' ∧ Sk S0 hN sN hs (fr ++ [(r, B)]) S' := by
  refine Runs.step e (lt_of_get hc) z ?_
  obtain ⟨a, b, c', rfl⟩ := e
  obtain ⟨n1, n2⟩ := plain_ne hp
  simp [tB, tPlain, z, L2.atI_nat hc, k_DOLLAR, k_END, n1, n2, k_PLAIN_SIGNS]
  refine (need_sign_ok z hc hp).thn ?_
  rintro d S1 ⟨rfl, rfl⟩
  simp [sk.topref, z, L2.atI_nat hc]
  refine wp.thn ?_
  rintro d S2 ⟨T, rfl⟩
  simp
  exact ⟨⟨a, b, c', by simp⟩, (sk.grow (List.prefix_append _ T)).top B⟩
theorem flat_str {x : List Nat} (h : ∀ c ∈ x, c ∈ plains) : flat 59 (.str x) = true := by
  show strsOk x = true
  unfold strsOk
  rw [List.all_eq_true]
  intro c hc
  have := h c hc
  revert this
  simp only [plains, List.mem_cons, List.not_mem_nil, or_false]
  intro h
  rcases h with h | h | h | h | h | h | h | h | h | h | h | h | h | h | h | h | h | h | h | h | h | h | h | h | h | h | h | h | h | h | h | h | h | h | h | h | h | h | h | h | h | h | h | h | h <;> (rw [h]; decide)
/-- more signs of a plain piece -/
theorem run_more : ∀ (y x : List Nat) (i : Nat) (ρ : Env) (S : Store) (A : List D), Ev L row hN sN i ρ → L.length ≤ 16777216 → (∀ j c, y[j]? = some c → L[i + j]? = some c) → (∀ c ∈ x ++ y, c ∈ plains) → (x ++ y).length < 16777216 → Fl A →
    Sk S0 hN sN hs (fr ++ [(r, A ++ [.str x])]) S → Runs y.length ρ S fun ρ' S' => Ev L row hN sN (i + y.length) ρ' ∧ Sk S0 hN sN hs (fr ++ [(r, A ++ [.str (x ++ y)])]) S'
  | [], x, i, ρ, S, A, e, z, hy, hp, hl, hf, sk => Runs.zero ⟨e, by simpa using sk⟩
  | c :: y, x, i, ρ, S, A, e, z, hy, hp, hl, hf, sk => by
    have fl : Fl (A ++ [.str x]) := by
      intro d hd
      rcases List.mem_append.mp hd with h | h
      · exact hf d h
      · rw [List.mem_singleton.mp h]; exact flat_str fun c hc => hp c (List.mem_append_left _ hc)
    have one := run_sign (B := A ++ [.str (x ++ [c])]) e z (by simpa using hy 0 c rfl) (hp c (by simp)) sk (with_plain_more sk.toplist fl (by simp at hl; omega))
    have := one.trans (j := y.length) (R := fun ρ' S' => Ev L row hN sN (i + (y.length + 1)) ρ' ∧ Sk S0 hN sN hs (fr ++ [(r, A ++ [.str (x ++ c :: y)])]) S') fun ρ' S' ⟨e', sk'⟩ => by
      have q := run_more y (x ++ [c]) (i + 1) ρ' S' A e' z (fun j c' hj => by have := hy (j + 1) c' hj; rwa [Nat.add_assoc, Nat.add_comm 1 j]) (fun c' hc' => hp c' (by simpa using hc')) (by simpa using hl) hf sk'
      have e1 : i + 1 + y.length = i + (y.length + 1) := by omega
      rw [e1] at q
      simpa using q
    rw [Nat.add_comm] at this
    exact this
theorem run_plain {x : List Nat} {i : Nat} {ρ : Env} {S : Store} (e : Ev L row hN sN i ρ) (z : L.length ≤ 16777216) (hx : ∀ j c, x[j]? = some c → L[i + j]? = some c) (hp : plainB x = true) (ns : NS A) (hf : Fl A) (ha : A.length < 1000)
    (sk : Sk S0 hN sN hs (fr ++ [(r, A)]) S) : Runs x.length ρ S fun ρ' S' => Ev L row hN sN (i + x.length) ρ' ∧ Sk S0 hN sN hs (fr ++ [(r, A ++ [.str x])]) S' := by
  simp only [plainB, Bool.and_eq_true, decide_eq_true_eq, List.all_eq_true] at hp
  cases x with
  | nil => simp at hp
  | cons c y =>
    have one := run_sign (B := A ++ [.str [c]]) e z (by simpa using hx 0 c rfl) (hp.2 c (by simp)) sk (with_plain_new sk.toplist hf (by omega) ns)
    have := one.trans (j := y.length) (R := fun ρ' S' => Ev L row hN sN (i + (y.length + 1)) ρ' ∧ Sk S0 hN sN hs (fr ++ [(r, A ++ [.str (c :: y)])]) S') fun ρ' S' ⟨e', sk'⟩ => by
      have q := run_more y [c] (i + 1) ρ' S' A e' z (fun j c' hj => by have := hx (j + 1) c' hj; rwa [Nat.add_assoc, Nat.add_comm 1 j]) (fun c' hc' => hp.2 c' (by simpa using hc')) (by have := hp.1.2; simp at this ⊢; omega) hf sk'
      have e1 : i + 1 + y.length = i + (y.length + 1) := by omega
      rw [e1] at q
      simpa using q
    rw [Nat.add_comm] at this
    exact this

theorem flat_pair {n s : List Nat} (hn : nameB n = true) (hs : s ∈ sgns) : flat 59 (.tup [.str n, .str s]) = true := by
  have a : strsOk n = true := by
    simp only [nameB, Bool.and_eq_true, decide_eq_true_eq, List.all_eq_true] at hn
    unfold strsOk
    rw [List.all_eq_true]
    intro c hc
    have := hn.2 c hc
    have lt : c < 200 := by
      have all : ∀ c ∈ caps ++ [95], c < 200 := by decide
      exact all c (by simpa using this)
    simp; omega
  have b : strsOk s = true := by
    simp only [sgns, List.mem_cons, List.not_mem_nil, or_false] at hs
    rcases hs with rfl | rfl | rfl | rfl | rfl | rfl | rfl | rfl | rfl <;> decide
  show ([D.str n, D.str s].all (flat 58)) = true
  simp only [List.all_cons, List.all_nil, Bool.and_true, Bool.and_eq_true]
  exact ⟨a, b⟩
/-- a part without a text -/
theorem run_get {pre n rest : List Nat} {ρ : Env} {S : Store} (hL : L = pre ++ 36 :: 123 :: (n ++ 125 :: rest)) (e : Ev L row hN sN pre.length ρ) (z : L.length ≤ 16777216) (hn : nameB n = true) (ha : A.length < 1000) (sk : Sk S0 hN sN hs (fr ++ [(r, A)]) S) :
    Runs 1 ρ S fun ρ' S' => Ev L row hN sN (pre.length + (n.length + 3)) ρ' ∧ Sk S0 hN sN hs (fr ++ [(r, A ++ [.tup [.str n, .str [], .tup []]])]) S' := by
  have hc : L[pre.length]? = some 36 := by rw [hL]; simp
  refine Runs.step e (lt_of_get hc) z ?_
  obtain ⟨a, b, c, rfl⟩ := e
  have h := head_at_ok (pre := pre) (n := n) (s := []) (rest := rest) (r := row) (S := S) hn (by decide) (by simpa [sgx, ← hL] using z)
  simp only [sgx, if_true, List.cons_append, List.nil_append, ← hL] at h
  simp [tB, tHead, z, L2.atI_nat hc, k_DOLLAR]
  refine h.thn ?_
  rintro d S1 ⟨rfl, rfl⟩
  simp [tgD, setAll, sk.topref, ty_list sk.toplist, append_is sk.toplist (show A.length < lim by simp only [lim_is]; omega)]
  exact ⟨ev_mk (by congr 1; omega), sk.top _⟩
/-- a part with a text begins -/
theorem run_open {pre n s rest : List Nat} {ρ : Env} {S : Store} (hL : L = pre ++ 36 :: 123 :: (n ++ (s ++ rest))) (e : Ev L row hN sN pre.length ρ) (z : L.length ≤ 16777216) (hn : nameB n = true) (hs1 : s ∈ sgns) (hs2 : s ≠ []) (h1 : hs.length < 1000) (h2 : fr.length < 1000) (sk : Sk S0 hN sN hs fr S) :
    Runs 1 ρ S fun ρ' S' => Ev L row hN sN (pre.length + 2 + n.length + s.length) ρ' ∧ ∃ r2, Sk S0 hN sN (hs ++ [.tup [.str n, .str s]]) (fr ++ [(r2, [])]) S' := by
  have hc : L[pre.length]? = some 36 := by rw [hL]; simp
  refine Runs.step e (lt_of_get hc) z ?_
  obtain ⟨a, b, c, rfl⟩ := e
  have sx : sgx s = s := by unfold sgx; rw [if_neg hs2]
  have h := head_at_ok (pre := pre) (n := n) (s := s) (rest := rest) (r := row) (S := S) hn hs1 (by rw [sx, ← hL]; exact z)
  rw [sx, ← hL] at h
  have hs3 : (s == []) = false := by simpa using hs2
  simp [tB, tHead, z, L2.atI_nat hc, k_DOLLAR]
  refine h.thn ?_
  rintro d S1 ⟨rfl, rfl⟩
  have sk1 := sk.heads (hs ++ [.tup [.str n, .str s]])
  have sk2 := sk1.push
  have g1 := (sk1.grow (List.prefix_append _ [O.lst []])).st
  have ap := append_is (y := .ref (List.set S1 hN (O.lst (hs ++ [D.tup [D.str n, D.str s]]))).length) g1 (by simp only [List.length_map, lim_is]; omega)
  simp only [List.length_set] at ap sk2
  have ap0 := append_is (y := .tup [.str n, .str s]) sk.hd (by simp only [lim_is]; omega)
  simp [tgD, setAll, hs2, ty_list sk.hd, ap0, ty_list sk1.st, ap]
  exact ⟨ev_mk (by congr 1), _, sk2⟩
theorem pop_is {S : Store} {m : Nat} {xs : List D} {y : D} (h : S[m]? = some (.lst (xs ++ [y]))) : popM (.ref m) [] S = some (y, S.set m (.lst xs)) := by
  unfold popM
  simp only [h]
  simp
theorem tuple_is {S : Store} {m : Nat} {xs : List D} (h : S[m]? = some (.lst xs)) : tupleF [.ref m] S = some (.tup xs, S) := by
  show (lstAt S m).map _ = _
  rw [lstAt_of S h]; rfl
/-- a part with a text ends -/
theorem run_shut {i r2 : Nat} {n s : List Nat} {B : List D} {ρ : Env} {S : Store} (hc : L[i]? = some 125) (e : Ev L row hN sN i ρ) (z : L.length ≤ 16777216) (hn : nameB n = true) (hs1 : s ∈ sgns) (hf : Fl hs) (ha : A.length < 1000)
    (sk : Sk S0 hN sN (hs ++ [.tup [.str n, .str s]]) (fr ++ [(r, A)] ++ [(r2, B)]) S) :
    Runs 1 ρ S fun ρ' S' => Ev L row hN sN (i + 1) ρ' ∧ Sk S0 hN sN hs (fr ++ [(r, A ++ [.tup [.str n, .str s, .tup B]])]) S' := by
  refine Runs.step e (lt_of_get hc) z ?_
  obtain ⟨a, b, c, rfl⟩ := e
  have fl : Fl (hs ++ [.tup [.str n, .str s]]) := by
    intro d hd
    rcases List.mem_append.mp hd with h | h
    · exact hf d h
    · rw [List.mem_singleton.mp h]; exact flat_pair hn hs1
  have sk0 := sk.grow (List.prefix_append S [O.lst []])
  have nn := ne_nil sk0.hd (e := S.length) (by simp) fl
  have sk1 := sk0.heads hs
  have pp := pop_is sk0.hd
  have st1 := sk1.st
  simp only [List.map_append, List.map_cons, List.map_nil] at st1
  have pq := pop_is st1
  have sk2 := sk1.pop
  have st2 : (fr ++ [(r, A)]).map (fun f => D.ref f.1) = fr.map (fun f => D.ref f.1) ++ [.ref r] := by simp
  rw [st2] at sk2
  have b1 := sk1.toplist
  have b2 : (List.set (List.set (S ++ [O.lst []]) hN (O.lst hs)) sN (O.lst (fr.map (fun f => D.ref f.1) ++ [D.ref r])))[r2]? = some (.lst B) := by
    have nd := sk1.nd
    simp only [List.map_append, List.map_cons, List.map_nil, List.nodup_cons, List.mem_cons, List.mem_append, List.not_mem_nil, or_false, not_or] at nd
    rw [List.getElem?_set_ne nd.2.1.2]
    exact b1
  have tu := tuple_is b2
  have sk3 := sk2.top (A ++ [.tup [.str n, .str s, .tup B]])
  have ap := append_is (y := .tup [.str n, .str s, .tup B]) sk2.toplist (by simp only [lim_is]; omega)
  simp [tB, tShut, z, L2.atI_nat hc, k_DOLLAR, k_END, nn, ty_list sk0.hd, pp, tgD, setAll, ty_list st1, pq, tu, sk2.topref, ty_list sk2.toplist, ap]
  exact ⟨⟨_, _, _, rfl⟩, sk3⟩
end LK06

set_option Elab.async false
set_option linter.all false
set_option maxRecDepth 100000
set_option maxHeartbeats 1000000
namespace LK06
open Al
variable {L : List Nat} {row : D} {hN sN : Nat} {S0 : Store}
theorem name_ok {n : List Nat} (hn : nameB n = true) : strsOk n = true := by
  simp only [nameB, Bool.and_eq_true, decide_eq_true_eq, List.all_eq_true] at hn
  unfold strsOk
  rw [List.all_eq_true]
  intro c hc
  have := hn.2 c hc
  have all : ∀ c ∈ caps ++ [95], c < 200 := by decide
  have := all c (by simpa using this)
  simp; omega
theorem sgn_ok {s : List Nat} (hs : s ∈ sgns) : strsOk s = true := by
  simp only [sgns, List.mem_cons, List.not_mem_nil, or_false] at hs
  rcases hs with rfl | rfl | rfl | rfl | rfl | rfl | rfl | rfl | rfl <;> decide
theorem plain_ok {x : List Nat} (h : plainB x = true) : strsOk x = true := by
  simp only [plainB, Bool.and_eq_true, decide_eq_true_eq, List.all_eq_true] at h
  exact flat_str fun c hc => h.2 c hc
mutual
theorem Pc.flat_ok : ∀ (p : Pc) (M n : Nat), p.ok M = true → 2 * M + 4 ≤ n → flat n p.d = true
  | .pl x, M, 0, h, hn => absurd hn (by omega)
  | .pl x, M, n + 1, h, hn => plain_ok h
  | .pt a s t, M, 0, h, hn => absurd hn (by omega)
  | .pt a s t, M, 1, h, hn => absurd hn (by omega)
  | .pt a s t, M, 2, h, hn => absurd hn (by omega)
  | .pt a s t, M, n + 3, h, hn => by
    simp only [Pc.ok, Bool.and_eq_true, decide_eq_true_eq] at h
    show ([D.str a, D.str s, D.tup t.ds].all (flat (n + 2))) = true
    simp only [List.all_cons, List.all_nil, Bool.and_true, Bool.and_eq_true]
    refine ⟨name_ok h.1.1, sgn_ok h.1.2, ?_⟩
    show t.ds.all (flat (n + 1)) = true
    rw [List.all_eq_true]
    have h2 := h.2
    split at h2
    · cases t with
      | nil => intro d hd; cases hd
      | cons p t => simp [Tx.isNil] at h2
    · simp only [Bool.and_eq_true, decide_eq_true_eq] at h2
      exact Tx.flat_ok t (M - 1) (n + 1) h2.2 (by omega)
theorem Tx.flat_ok : ∀ (t : Tx) (M n : Nat), t.ok M = true → 2 * M + 4 ≤ n → ∀ d ∈ t.ds, flat n d = true
  | .nil, M, n, h, hn, d, hd => by cases hd
  | .cons p t, M, n, h, hn, d, hd => by
    simp only [Tx.ok, Bool.and_eq_true] at h
    simp only [Tx.ds] at hd
    rcases List.mem_cons.mp hd with e | e
    · rw [e]; exact Pc.flat_ok p M n h.1.1 hn
    · exact Tx.flat_ok t M n h.2 hn d e
end
theorem ns_snoc {A : List D} {ds : List D} : NS (A ++ [.tup ds]) := .inr ⟨A, ds, rfl⟩
theorem at_mid {pre x rest : List Nat} (hL : L = pre ++ (x ++ rest)) : ∀ j c, x[j]? = some c → L[pre.length + j]? = some c := by
  intro j c h
  rw [hL, mid_get _ _ _ _ (lt_of_get h)]
  exact h
mutual
/-- how many turns the reader takes -/
def Pc.kt : Pc → Nat
  | .pl x => x.length
  | .pt _ s t => if s = [] then 1 else 1 + (t.kt + 1)
def Tx.kt : Tx → Nat
  | .nil => 0
  | .cons p t => p.kt + t.kt
end
mutual
theorem Pc.kt_le : ∀ p : Pc, p.kt ≤ p.wr.length
  | .pl x => by simp [Pc.kt, Pc.wr]
  | .pt n s t => by
    have := Tx.kt_le t
    simp only [Pc.kt, wr_pt, List.length_cons, List.length_append, List.length_nil]
    split <;> omega
theorem Tx.kt_le : ∀ t : Tx, t.kt ≤ t.wr.length
  | .nil => by simp [Tx.kt]
  | .cons p t => by
    have a := Pc.kt_le p
    have b := Tx.kt_le t
    simp only [Tx.kt, Tx.wr, List.length_append]
    omega
end
mutual
theorem Pc.run : ∀ (p : Pc) (M : Nat), p.ok M = true → M ≤ 3 → ∀ (pre rest : List Nat) (hs : List D) (fr : List (Nat × List D)) (r : Nat) (A : List D) (ρ : Env) (S : Store), L = pre ++ (p.wr ++ rest) → L.length ≤ 16777216 → (p.isPl = true → NS A) → Fl A → Fl hs → A.length < 500 → hs.length + M < 500 → fr.length + M < 500 →
    Ev L row hN sN pre.length ρ → Sk S0 hN sN hs (fr ++ [(r, A)]) S → Runs p.kt ρ S fun ρ' S' => Ev L row hN sN (pre ++ p.wr).length ρ' ∧ Sk S0 hN sN hs (fr ++ [(r, A ++ [p.d])]) S'
  | .pl x, M, h, hM, pre, rest, hs, fr, r, A, ρ, S, hL, z, ns, fA, fh, lA, lh, lf, e, sk => by
    have q := run_plain e z (at_mid (x := x) (rest := rest) (by simpa [Pc.wr] using hL)) h (ns rfl) fA (by omega) sk
    simpa [Pc.wr, Pc.d, Pc.kt] using q
  | .pt n s t, M, h, hM, pre, rest, hs, fr, r, A, ρ, S, hL, z, ns, fA, fh, lA, lh, lf, e, sk => by
    have h' := h
    simp only [Pc.ok, Bool.and_eq_true, decide_eq_true_eq] at h'
    obtain ⟨⟨hn, hs1⟩, ht⟩ := h'
    rw [wr_pt] at hL ⊢
    split at ht
    · rename_i es
      subst es
      cases t with
      | cons p t => simp [Tx.isNil] at ht
      | nil =>
        have q := run_get (rest := rest) (n := n) (pre := pre) (by simpa [Tx.wr] using hL) e z hn (by omega) sk
        simpa [Tx.wr, Pc.d, Tx.ds, Pc.kt] using q
    · rename_i es
      simp only [Bool.and_eq_true, decide_eq_true_eq] at ht
      have q1 := run_open (rest := t.wr ++ 125 :: rest) (n := n) (s := s) (pre := pre) (by simpa using hL) e z hn hs1 es (by omega) (by simp; omega) sk
      have hL2 : L = (pre ++ 36 :: 123 :: (n ++ s)) ++ (t.wr ++ 125 :: rest) := by rw [hL]; simp
      have i2 : pre.length + 2 + n.length + s.length = (pre ++ 36 :: 123 :: (n ++ s)).length := by simp; omega
      have cl : L[(pre ++ 36 :: 123 :: (n ++ s) ++ t.wr).length]? = some 125 := by rw [hL2, ← List.append_assoc]; simp
      have fp : Fl (hs ++ [.tup [.str n, .str s]]) := by
        intro d hd
        rcases List.mem_append.mp hd with h | h
        · exact fh d h
        · rw [List.mem_singleton.mp h]; exact flat_pair hn hs1
      rw [i2] at q1
      have kt : (Pc.pt n s t).kt = 1 + (t.kt + 1) := by simp only [Pc.kt, if_neg es]
      rw [kt]
      refine q1.trans ?_
      rintro ρ1 S1 ⟨e1, r2, sk1⟩
      refine (Tx.run t (M - 1) ht.2 (by omega) _ (125 :: rest) _ (fr ++ [(r, A)]) r2 [] ρ1 S1 hL2 z (fun _ => .inl rfl) (fun d hd => (by cases hd)) fp (by have := ht.1.2; simp; omega) (by have := ht.1.1; simp; omega) (by have := ht.1.1; simp; omega) e1 sk1).trans ?_
      rintro ρ2 S2 ⟨e2, sk2⟩
      refine (run_shut cl e2 z hn hs1 fh (by omega) sk2).mono ?_
      rintro ρ3 S3 ⟨e3, sk3⟩
      refine ⟨?_, by simpa [Pc.d] using sk3⟩
      have e4 : (pre ++ 36 :: 123 :: (n ++ s) ++ t.wr).length + 1 = (pre ++ 36 :: 123 :: (n ++ (s ++ (t.wr ++ [125])))).length := by simp; omega
      rwa [e4] at e3
theorem Tx.run : ∀ (t : Tx) (M : Nat), t.ok M = true → M ≤ 3 → ∀ (pre rest : List Nat) (hs : List D) (fr : List (Nat × List D)) (r : Nat) (A : List D) (ρ : Env) (S : Store), L = pre ++ (t.wr ++ rest) → L.length ≤ 16777216 → (t.hd = true → NS A) → Fl A → Fl hs → A.length + t.l.length < 500 → hs.length + M < 500 → fr.length + M < 500 →
    Ev L row hN sN pre.length ρ → Sk S0 hN sN hs (fr ++ [(r, A)]) S → Runs t.kt ρ S fun ρ' S' => Ev L row hN sN (pre ++ t.wr).length ρ' ∧ Sk S0 hN sN hs (fr ++ [(r, A ++ t.ds)]) S'
  | .nil, M, h, hM, pre, rest, hs, fr, r, A, ρ, S, hL, z, ns, fA, fh, lA, lh, lf, e, sk => Runs.zero ⟨by simpa [Tx.wr] using e, by simpa [Tx.ds] using sk⟩
  | .cons p t, M, h, hM, pre, rest, hs, fr, r, A, ρ, S, hL, z, ns, fA, fh, lA, lh, lf, e, sk => by
    simp only [Tx.ok, Bool.and_eq_true] at h
    simp only [Tx.l, List.length_cons] at lA
    simp only [Tx.kt]
    refine (Pc.run p M h.1.1 hM pre (t.wr ++ rest) hs fr r A ρ S (by simpa [Tx.wr] using hL) z ns fA fh (by omega) lh lf e sk).trans ?_
    rintro ρ1 S1 ⟨e1, sk1⟩
    refine (Tx.run t M h.2 hM (pre ++ p.wr) rest hs fr r (A ++ [p.d]) ρ1 S1 (by rw [hL]; simp [Tx.wr]) z ?_ ?_ fh (by simp; omega) lh lf e1 sk1).mono ?_
    · intro ht
      have adj := h.1.2
      cases p with
      | pl x => simp [Pc.isPl, ht] at adj
      | pt n s t2 => exact ns_snoc
    · intro d hd
      rcases List.mem_append.mp hd with q | q
      · exact fA d q
      · rw [List.mem_singleton.mp q]; exact Pc.flat_ok p M 59 h.1.1 (by omega)
    · rintro ρ2 S2 ⟨e2, sk2⟩
      exact ⟨by simpa [Tx.wr] using e2, by simpa [Tx.ds] using sk2⟩
end
theorem text_at_ok {t : Tx} {pre : List Nat} {S : Store} (h : t.ok4 = true) (z : pre.length ≤ 100000) :
    Ends (C_text_at [.str (pre ++ t.wr), .int (pre.length : Nat), row] S) fun d S' => d = .tup t.ds ∧ S <+: S' := by
  have w := wr_len4 h
  simp only [Tx.ok4, Bool.and_eq_true, decide_eq_true_eq] at h
  have zL : (pre ++ t.wr).length ≤ 16777216 := by simp; omega
  have e0 : C_text_at = bodyF 8 B_text_at := by unfold C_text_at; rfl
  rw [e0, B_text_at_eq]
  simp [startE]
  have sk0 : Sk S S.length (S.length + 2) [] ([] ++ [(S.length + 1, [])]) (S ++ [O.lst [], O.lst [], O.lst [D.ref (S.length + 1)]]) := by
    refine ⟨List.prefix_append _ _, by simp, by simp, by simp, by simp, ?_⟩
    intro f hf
    simp at hf
    subst hf
    simp
  have kt := Tx.kt_le t
  have run := Tx.run (L := pre ++ t.wr) (row := row) t 3 h.2 (by omega) pre [] [] [] (S.length + 1) [] _ _ (by simp) zL (fun _ => .inl rfl) (fun d hd => (by cases hd)) (fun d hd => (by cases hd)) (by simp; omega) (by simp) (by simp) (ev_mk (a := none) (b := none) (c := none) rfl) sk0
  have fin := run (turns - t.kt) (fun o S' => ∃ ρ', o = .nx ρ' ∧ Ev (pre ++ t.wr) row S.length (S.length + 2) (pre ++ t.wr).length ρ' ∧ Sk S S.length (S.length + 2) [] ([] ++ [(S.length + 1, [] ++ t.ds)]) S') ?_
  · rw [show turns - t.kt + t.kt = turns by simp only [turns]; omega] at fin
    refine Ends.thn (by simpa using fin) ?_
    rintro o S1 ⟨ρ1, rfl, ⟨a, b, c, rfl⟩, sk1⟩
    have sk2 := sk1.grow (List.prefix_append S1 [O.lst []])
    have nn := ne_nil sk2.hd (e := S1.length) (by simp) (fun d hd => (by cases hd))
    have ix : ixO (.ref (S.length + 2)) (.int 0) (S1 ++ [O.lst []]) = some (.ref (S.length + 1), S1 ++ [O.lst []]) := by
      rw [ixO_ref _ _ _ _ sk2.st]; rfl
    have tu := tuple_is (sk2.at_ (S.length + 1, t.ds) (by simp))
    simp [nn, ix, tu]
    exact sk2.pre
  · rintro ρ1 S1 ⟨⟨a, b, c, rfl⟩, sk1⟩
    obtain ⟨f, hf⟩ : ∃ f, turns - t.kt = f + 1 := ⟨turns - t.kt - 1, by simp only [turns]; omega⟩
    rw [hf]
    unfold whileF
    have ec : tC [some (.str (pre ++ t.wr)), some (.int ((pre ++ t.wr).length : Nat)), some row, some (.ref S.length), some (.ref (S.length + 2)), a, b, c] S1 = .ok false S1 := by
      have zz : pre.length + t.wr.length ≤ 16777216 := by simpa using zL
      simp [tC, zz]
    rw [ec]
    exact ⟨_, rfl, ⟨a, b, c, rfl⟩, sk1⟩
end LK06

set_option Elab.async false
set_option linter.all false
set_option maxRecDepth 100000
set_option maxHeartbeats 1000000
namespace LK06
open Al
variable {row : D}
theorem word_at_ok {w rest : List Nat} {S : Store} (zw : w.length ≤ 100) (z : (w ++ 32 :: rest).length ≤ 16777216) : Ends (C_word_at [.str (w ++ 32 :: rest), .str w, row] S) fun d S' => d = .int ((w.length + 1 : Nat) : Int) ∧ S' = S := by
  have b1 : w.length + 1 ≤ 16777216 := by omega
  have b2 : w.length ≤ 16777216 := by omega
  have es : ∀ x : List Nat, signs x = x.map fun c => D.str [c] := fun _ => rfl
  have len : (w ++ [32]).length + 1 = w.length + 1 + 1 := by simp
  simp only [C_word_at, B_word_at, ev_body, startE, k_BLANK]
  simp [b1]
  rw [es]
  refine Ends.thn (Q := fun o S' => S' = S ∧ ∃ a b, o = .nx [some (.str (w ++ 32 :: rest)), some (.str w), some row, a, b]) ?_ ?_
  · rw [← len]
    refine for_enum (w ++ [32]) (fun c => D.str [c]) (fun i ρ S' => S' = S ∧ ∃ a b, ρ = [some (.str (w ++ 32 :: rest)), some (.str w), some row, a, b]) ⟨rfl, none, none, rfl⟩ ?_ ?_
    · rintro i c ρ S1 hc ⟨rfl, a, b, rfl⟩
      have g : (w ++ 32 :: rest)[i]? = some c := by
        have : w ++ 32 :: rest = (w ++ [32]) ++ rest := by simp
        rw [this, List.getElem?_append_left (lt_of_get hc)]
        exact hc
      simp
      refine (need_sign_ok z g (by simp)).thn ?_
      rintro d S2 ⟨rfl, rfl⟩
      simp
    · rintro ρ S1 ⟨rfl, a, b, rfl⟩
      exact ⟨rfl, a, b, rfl⟩
  · rintro o S1 ⟨rfl, a, b, rfl⟩
    simp [b2]
theorem row_told_ok {r : Rw} {S : Store} (h : r.ok = true) : Ends (C_row_told [.str r.wr, row] S) fun d S' => d = r.d ∧ S <+: S' := by
  have zz := Rw.wr_len h
  have z : r.wr.length ≤ 16777216 := by omega
  have caps_ne : ∀ c ∈ caps, c ≠ 99 ∧ c ≠ 100 := by decide
  cases r with
  | check t =>
    simp only [Rw.ok] at h
    have g0 : (Rw.check t).wr[0]? = some 99 := rfl
    have wd : (Rw.check t).wr = [99, 104, 101, 99, 107] ++ 32 :: t.wr := rfl
    have wd2 : (Rw.check t).wr = [99, 104, 101, 99, 107, 32] ++ t.wr := rfl
    generalize hL : (Rw.check t).wr = L at *
    have a0 := L2.atI_nat g0
    simp only [C_row_told, B_row_told, ev_body, startE, k_CAPITALS, k_DROP, k_CHECK]
    simp
    refine (need_sign_ok (k := 0) z g0 (by simp)).thn ?_
    rintro d S1 ⟨rfl, rfl⟩
    simp at a0
    simp [z, a0]
    rw [wd]
    refine (word_at_ok (by simp) (by rw [← wd]; exact z)).thn ?_
    rintro d S2 ⟨rfl, rfl⟩
    rw [← wd, wd2]
    refine (text_at_ok (pre := [99, 104, 101, 99, 107, 32]) h (by simp)).thn ?_
    rintro d S3 ⟨rfl, x3⟩
    simp [Rw.d]
    exact x3
  | drop n =>
    simp only [Rw.ok] at h
    have g0 : (Rw.drop n).wr[0]? = some 100 := rfl
    have wd : (Rw.drop n).wr = [100, 114, 111, 112] ++ 32 :: n := rfl
    have wd2 : (Rw.drop n).wr = [100, 114, 111, 112, 32] ++ (n ++ []) := by simp [Rw.wr]
    have ln : (Rw.drop n).wr.length = 5 + n.length := by simp [Rw.wr]; omega
    generalize hL : (Rw.drop n).wr = L at *
    have a0 := L2.atI_nat g0
    simp only [C_row_told, B_row_told, ev_body, startE, k_CAPITALS, k_DROP, k_CHECK]
    simp
    refine (need_sign_ok (k := 0) z g0 (by simp)).thn ?_
    rintro d S1 ⟨rfl, rfl⟩
    simp at a0
    simp [z, a0]
    rw [wd]
    refine (word_at_ok (by simp) (by rw [← wd]; exact z)).thn ?_
    rintro d S2 ⟨rfl, rfl⟩
    rw [← wd, wd2]
    refine (name_at_ok (pre := [100, 114, 111, 112, 32]) h (by intro c hc; simp at hc) (by rw [← wd2]; exact z)).thn ?_
    rintro d S3 ⟨rfl, rfl⟩
    rw [← wd2]
    have e1 : ¬ (5 + (n.length : Int)) < (L.length : Int) := by omega
    simp [tgD, setAll, z, Rw.d, e1]
  | set n t =>
    simp only [Rw.ok, Bool.and_eq_true] at h
    obtain ⟨n1, n8, nc, n0⟩ := name_parts h.1
    have g1 : n[0]? = some n[0] := List.getElem?_eq_getElem (by omega)
    have g0 : (Rw.set n t).wr[0]? = some n[0] := by simp only [Rw.wr]; rw [List.getElem?_append_left (by omega)]; exact g1
    have c0 := n0 _ g1
    obtain ⟨ne1, ne2⟩ := caps_ne _ c0
    have wd : (Rw.set n t).wr = [] ++ (n ++ 61 :: t.wr) := rfl
    have wd2 : (Rw.set n t).wr = (n ++ [61]) ++ t.wr := by simp [Rw.wr]
    have g2 : (Rw.set n t).wr[n.length]? = some 61 := by simp [Rw.wr]
    have q1 : ((n.length : Int) + 1) = (((n ++ [61]).length : Nat) : Int) := by simp
    generalize hL : (Rw.set n t).wr = L at *
    have a0 := L2.atI_nat g0
    have a2 := L2.atI_nat g2
    simp only [C_row_told, B_row_told, ev_body, startE, k_CAPITALS, k_DROP, k_CHECK, k_EQUALS, k_ASKED, k_SET]
    simp
    refine (need_sign_ok (k := 0) z g0 (by have := c0; simp only [caps] at this; revert this; simp only [List.mem_cons, List.not_mem_nil, or_false]; omega)).thn ?_
    rintro d S1 ⟨rfl, rfl⟩
    simp at a0
    simp [z, a0, ne1, ne2]
    have na := name_at_ok (pre := []) (n := n) (rest := 61 :: t.wr) (r := row) (S := S1) h.1 (by intro c hc; simp at hc; subst hc; decide) (by rw [← wd]; exact z)
    rw [← wd] at na
    simp at na
    refine na.thn ?_
    rintro d S2 ⟨rfl, rfl⟩
    simp [tgD, setAll]
    refine (need_sign_ok z g2 (by simp)).thn ?_
    rintro d S3 ⟨rfl, rfl⟩
    simp [z, a2]
    rw [q1, wd2]
    refine (text_at_ok h.2 (by simp; omega)).thn ?_
    rintro d S4 ⟨rfl, x4⟩
    simp [Rw.d]
    exact x4
  | give n t =>
    simp only [Rw.ok, Bool.and_eq_true] at h
    obtain ⟨n1, n8, nc, n0⟩ := name_parts h.1
    have g1 : n[0]? = some n[0] := List.getElem?_eq_getElem (by omega)
    have g0 : (Rw.give n t).wr[0]? = some n[0] := by simp only [Rw.wr]; rw [List.getElem?_append_left (by omega)]; exact g1
    have c0 := n0 _ g1
    obtain ⟨ne1, ne2⟩ := caps_ne _ c0
    have wd : (Rw.give n t).wr = [] ++ (n ++ 63 :: 61 :: t.wr) := rfl
    have wd2 : (Rw.give n t).wr = (n ++ [63, 61]) ++ t.wr := by simp [Rw.wr]
    have g2 : (Rw.give n t).wr[n.length]? = some 63 := by simp [Rw.wr]
    have g3 : (Rw.give n t).wr[n.length + 1]? = some 61 := by simp [Rw.wr]
    have q0 : ((n.length : Int) + 1) = ((n.length + 1 : Nat) : Int) := by simp
    have q1 : ((n.length : Int) + 2) = (((n ++ [63, 61]).length : Nat) : Int) := by simp
    generalize hL : (Rw.give n t).wr = L at *
    have a0 := L2.atI_nat g0
    have a2 := L2.atI_nat g2
    simp only [C_row_told, B_row_told, ev_body, startE, k_CAPITALS, k_DROP, k_CHECK, k_EQUALS, k_ASKED, k_GIVE]
    simp
    refine (need_sign_ok (k := 0) z g0 (by have := c0; simp only [caps] at this; revert this; simp only [List.mem_cons, List.not_mem_nil, or_false]; omega)).thn ?_
    rintro d S1 ⟨rfl, rfl⟩
    simp at a0
    simp [z, a0, ne1, ne2]
    have na := name_at_ok (pre := []) (n := n) (rest := 63 :: 61 :: t.wr) (r := row) (S := S1) h.1 (by intro c hc; simp at hc; subst hc; decide) (by rw [← wd]; exact z)
    rw [← wd] at na
    simp at na
    refine na.thn ?_
    rintro d S2 ⟨rfl, rfl⟩
    simp [tgD, setAll]
    refine (need_sign_ok z g2 (by simp)).thn ?_
    rintro d S3 ⟨rfl, rfl⟩
    simp [z, a2]
    rw [q0]
    refine (need_sign_ok z g3 (by simp)).thn ?_
    rintro d S4 ⟨rfl, rfl⟩
    rw [q1, wd2]
    refine (text_at_ok h.2 (by simp; omega)).thn ?_
    rintro d S4 ⟨rfl, x4⟩
    simp [Rw.d]
    exact x4
end LK06

set_option Elab.async false
set_option linter.all false
set_option maxRecDepth 100000
set_option maxHeartbeats 1000000
namespace LK06
open Al
theorem need_string_ok {x : List Nat} {S : Store} : Ends (C_need_string [.str x] S) fun d S' => d = .non ∧ S' = S := by
  simp [C_need_string, B_need_string, startE]
theorem read_text_ok {t : Tx} {S : Store} (h : t.ok4 = true) : Ends (C_read_text [.str t.wr] S) fun d S' => d = .tup t.ds ∧ S <+: S' := by
  simp [C_read_text, B_read_text, startE]
  refine need_string_ok.thn ?_
  rintro d S1 ⟨rfl, rfl⟩
  have ta := text_at_ok (row := .int 0) (pre := []) (S := S1) h (by simp)
  simp at ta
  refine ta.thn ?_
  rintro d S2 ⟨rfl, x2⟩
  refine (is_text_ok h).thn ?_
  rintro d S3 ⟨rfl, x3⟩
  simp
  exact x2.trans x3
/-! no newline in a row -/
theorem nl_name {n : List Nat} (h : nameB n = true) : 10 ∉ n := by
  simp only [nameB, Bool.and_eq_true, decide_eq_true_eq, List.all_eq_true] at h
  intro hc
  have := h.2 10 hc
  revert this
  decide
theorem nl_plain {n : List Nat} (h : plainB n = true) : 10 ∉ n := by
  simp only [plainB, Bool.and_eq_true, decide_eq_true_eq, List.all_eq_true] at h
  intro hc
  have := h.2 10 hc
  revert this
  decide
theorem nl_sgn {s : List Nat} (h : s ∈ sgns) : 10 ∉ s := by
  simp only [sgns, List.mem_cons, List.not_mem_nil, or_false] at h
  rcases h with rfl | rfl | rfl | rfl | rfl | rfl | rfl | rfl | rfl <;> decide
mutual
theorem Pc.nl : ∀ (p : Pc) (M : Nat), p.ok M = true → 10 ∉ p.wr
  | .pl x, M, h => nl_plain h
  | .pt n s t, M, h => by
    simp only [Pc.ok, Bool.and_eq_true, decide_eq_true_eq] at h
    have a := nl_name h.1.1
    have b := nl_sgn h.1.2
    have c : 10 ∉ t.wr := by
      have h2 := h.2
      split at h2
      · cases t with
        | nil => simp [Tx.wr]
        | cons p t => simp [Tx.isNil] at h2
      · simp only [Bool.and_eq_true, decide_eq_true_eq] at h2
        exact Tx.nl t (M - 1) h2.2
    rw [wr_pt]
    simp [a, b, c]
theorem Tx.nl : ∀ (t : Tx) (M : Nat), t.ok M = true → 10 ∉ t.wr
  | .nil, M, h => by simp [Tx.wr]
  | .cons p t, M, h => by
    simp only [Tx.ok, Bool.and_eq_true] at h
    have a := Pc.nl p M h.1.1
    have b := Tx.nl t M h.2
    simp [Tx.wr, a, b]
end
theorem Rw.nl {r : Rw} (h : r.ok = true) : 10 ∉ r.wr := by
  cases r with
  | set n t => simp only [Rw.ok, Tx.ok4, Bool.and_eq_true] at h; have a := nl_name h.1; have b := Tx.nl t 3 h.2.2; simp [Rw.wr, a, b]
  | give n t => simp only [Rw.ok, Tx.ok4, Bool.and_eq_true] at h; have a := nl_name h.1; have b := Tx.nl t 3 h.2.2; simp [Rw.wr, a, b]
  | drop n => simp only [Rw.ok] at h; have a := nl_name h; simp [Rw.wr, a]
  | check t => simp only [Rw.ok, Tx.ok4, Bool.and_eq_true] at h; have b := Tx.nl t 3 h.2; simp [Rw.wr, b]
theorem Rw.wr_ne {r : Rw} : r.wr ≠ [] := by cases r <;> simp [Rw.wr]
theorem joinL_ne {l : List (List Nat)} (h : l ≠ []) (hx : ∀ x ∈ l, x ≠ []) : joinL [10] l ≠ [] := by
  cases l with
  | nil => exact absurd rfl h
  | cons x l =>
    have := hx x (by simp)
    cases l with
    | nil => simpa [joinL] using this
    | cons y l => simp [joinL, this]
theorem joinL_len : ∀ l : List (List Nat), (joinL [10] l).length ≤ (l.map List.length).sum + l.length
  | [] => by simp [joinL]
  | [p] => by simp [joinL]
  | p :: q :: r => by
    have := joinL_len (q :: r)
    simp only [joinL, List.length_append, List.map_cons, List.sum_cons, List.length_cons, List.length_nil] at this ⊢
    omega
theorem fwr_len {rows : List Rw} (h : FileOk rows) : (fwr rows).length ≤ 4000000 := by
  have a := sum_le (l := rows.map Rw.wr) (b := 90000) (by
    intro x hx
    obtain ⟨r, hr, rfl⟩ := List.mem_map.mp hx
    exact Rw.wr_len (h.ok r hr))
  have b := h.len
  have c := joinL_len (rows.map Rw.wr)
  simp only [List.length_map] at a c
  have d := Nat.mul_le_mul_right 90000 b
  unfold fwr
  omega
theorem split_is {x : List Nat} {S : Store} (z : x.length + 2 ≤ 16777216) : splitM (.str x) [.str [10]] S = some (.ref S.length, S ++ [.lst ((splitT x 10).map .str)]) := by
  show (if x.length + 2 ≤ lim then some (D.ref S.length, S ++ [O.lst ((splitT x 10).map .str)]) else none) = _
  rw [if_pos (by simpa using z)]
/-- the rows told, line by line -/
theorem rows_told {rows : List Rw} {S : Store} {n : Nat} {ρ : Env} (h : FileOk rows) (hn : S[n]? = some (.lst ((rows.map Rw.wr).map .str))) (l2 : ρ.length = 4) :
    Ends (lcF (fun i S => (lstAt S n).bind fun xs => nxEn xs i) (.tp [2, 3]) tYesF (eCallD C_row_told (aCons (eVar 3) (aCons (eVar 2) aNil))) S.length (rows.length + 1) 0 ρ (S ++ [.lst []])) fun d S' => d = .ref S.length ∧ At S (rows.map Rw.d) S' := by
  have hl := h.len
  refine lc_ends rows.length (fun i => .tup [.int (i : Nat), ((rows.map Rw.wr).map D.str).getD i .non]) (fun i acc S' => acc = (rows.map Rw.d).take i ∧ At S acc S') (by simp only [lim_is]; omega) ?_ ?_ ?_ _ 0 [] _ ⟨by simp, At.new⟩ (by simp) (by simp) (by omega) (by omega)
  · rintro i acc S' ⟨_, at1⟩ hi
    rw [lstAt_of S' (pre_get at1.pre hn), Option.bind_some]
    have := nxEn_is ((rows.map Rw.wr).map D.str) i (by simpa using hi)
    simpa using this
  · rintro i acc S' hi ⟨rfl, at1⟩ e
    refine ⟨_, rfl, ?_⟩
    have ei : ((rows.map Rw.wr).map D.str).getD i .non = .str rows[i].wr := by simp [hi]
    rw [ei]
    obtain ⟨a, b, c, d, rfl⟩ : ∃ a b c d, ρ = [a, b, c, d] := by
      match ρ, l2 with
      | [a, b, c, d], _ => exact ⟨a, b, c, d, rfl⟩
    simp [setAll]
    refine (row_told_ok (h.ok _ (List.getElem_mem hi))).mono ?_
    rintro y S2 ⟨rfl, x2⟩
    have at2 := at1.ext x2
    exact ⟨at2.get, take_snoc (by rw [List.getElem?_map, List.getElem?_eq_getElem hi]; rfl), at2.set _⟩
  · rintro acc S' ⟨rfl, at1⟩ e
    rw [List.take_of_length_le (by simp)] at at1
    exact ⟨rfl, at1⟩
theorem read_file_ok {rows : List Rw} {S : Store} (h : FileOk rows) : Ends (C_read_file [.str (fwr rows)] S) fun d S' => d = .tup (rows.map Rw.d) ∧ S <+: S' := by
  have z : (fwr rows).length + 2 ≤ 16777216 := by have := fwr_len h; omega
  simp [C_read_file, B_read_file, startE, k_NEWLINE]
  refine need_string_ok.thn ?_
  rintro d S1 ⟨rfl, rfl⟩
  have go : ∀ (n : Nat) (S2 : Store), S1 <+: S2 → S2[n]? = some (.lst ((rows.map Rw.wr).map .str)) → Ends ((ofSrc (srcEn (.ref n) S2) S2).bind fun src S1 => (lcF src.nxt (.tp [2, 3]) tYesF (eCallD C_row_told (aCons (eVar 3) (aCons (eVar 2) aNil))) S1.length src.fuel 0 (wipeE [some (.str (fwr rows)), some (.ref n), none, none] [2, 3]) (S1 ++ [.lst []])).bind fun a S => (Res.of (tupleF [a] S)).bind fun a S => C_need_file [a] S) fun d S' => d = .tup (rows.map Rw.d) ∧ S1 <+: S' := by
    intro n S2 x2 hn
    have es : srcEn (.ref n) S2 = some ⟨rows.length + 1, fun i S => (lstAt S n).bind fun xs => nxEn xs i⟩ := by
      show (lstAt S2 n).map _ = _
      rw [lstAt_of S2 hn]
      simp
    rw [es]
    simp only [ofSrc_some, Res.bind_ok]
    refine (rows_told h hn (by simp [wipeE])).thn ?_
    rintro d S3 ⟨rfl, at3⟩
    rw [tuple_is at3.get]
    simp
    refine (need_file_ok h).mono ?_
    rintro d S4 ⟨rfl, x4⟩
    exact ⟨rfl, (x2.trans at3.pre).trans x4⟩
  cases rows with
  | nil =>
    have e : fwr [] = [] := rfl
    simp [e]
    have := go S1.length (S1 ++ [.lst []]) (List.prefix_append _ _) (by simp)
    simpa [e] using this
  | cons r rows =>
    have ne : fwr (r :: rows) ≠ [] := joinL_ne (by simp) (by
      intro x hx
      obtain ⟨r, _, rfl⟩ := List.mem_map.mp hx
      exact Rw.wr_ne)
    have sp : splitT (fwr (r :: rows)) 10 = (r :: rows).map Rw.wr := splitT_join (by omega) (by simp) (by
      intro x hx
      obtain ⟨r', hr, rfl⟩ := List.mem_map.mp hx
      exact Rw.nl (h.ok r' hr))
    simp [ne, split_is z, sp]
    have := go S1.length (S1 ++ [.lst (((r :: rows).map Rw.wr).map .str)]) (List.prefix_append _ _) (by simp)
    simpa using this
end LK06

set_option Elab.async false
set_option linter.all false
set_option maxRecDepth 100000
set_option maxHeartbeats 1000000
namespace LK06
open Al
/-! ### draws -/
theorem small_of {i : Int} (h0 : 0 ≤ i) (h1 : i < 1000000000000000) : smallI i = true := by
  unfold smallI
  simp
  omega
theorem mixed_ok {c k : Int} {S : Store} (h0 : 0 ≤ k) (h1 : k < 1000000) : Ends (C__law_mixed [.int c, .int k] S) fun d S' => S' = S ∧ ∃ v : Int, d = .int v ∧ 0 ≤ v ∧ v < 2147483629 := by
  have c0 : 0 ≤ c % 2147483647 := Int.emod_nonneg _ (by decide)
  have c1 : c % 2147483647 < 2147483647 := Int.emod_lt_of_pos _ (by decide)
  have s1 := small_of (i := c % 2147483647) c0 (by omega)
  have s2 := small_of (i := 2) (by decide) (by decide)
  have s3 := small_of (i := 2 * k) (by omega) (by omega)
  have s4 := small_of (i := 69621) (by decide) (by decide)
  simp [C__law_mixed, B__law_mixed, startE, s1, s2, s3, s4]
  exact ⟨Int.emod_nonneg _ (by decide), Int.emod_lt_of_pos _ (by decide)⟩
def stD (a : Int) : List (List Nat × D) := [([99, 101, 108, 108, 115], .ref 1), ([108, 101, 102, 116, 115], .ref 3), ([97, 116], .int a), ([114, 111, 111, 109], .int 0)]
/-- the state of the draws: at most a were made -/
def Stt (a : Int) (S : Store) : Prop := ∃ (cells lefts : List Int) (k : Int), 0 ≤ k ∧ k ≤ a ∧ 0 < cells.length ∧ lefts.length = cells.length ∧ S[1]? = some (.lst (cells.map .int)) ∧ S[3]? = some (.lst (lefts.map .int)) ∧ S[2]? = some (.dct (stD k))
/-- nothing else is changed -/
structure Fr (S S' : Store) : Prop where
  len : S.length ≤ S'.length
  keep : ∀ i o, 3 < i → S[i]? = some o → S'[i]? = some o
theorem Fr.refl {S : Store} : Fr S S := ⟨Nat.le_refl _, fun _ _ _ h => h⟩
theorem Fr.trans {S S' S'' : Store} (a : Fr S S') (b : Fr S' S'') : Fr S S'' := ⟨Nat.le_trans a.len b.len, fun i o hi h => b.keep i o hi (a.keep i o hi h)⟩
theorem Fr.of_pre {S S' : Store} (h : S <+: S') : Fr S S' := ⟨h.length_le, fun i o _ e => pre_get h e⟩
theorem Stt.of_pre {a : Int} {S S' : Store} (h : Stt a S) (x : S <+: S') : Stt a S' := by
  obtain ⟨cells, lefts, k, h0, h1, h2, h4, h5, h6, h7⟩ := h
  exact ⟨cells, lefts, k, h0, h1, h2, h4, pre_get x h5, pre_get x h6, pre_get x h7⟩
theorem Stt.mono {a b : Int} {S : Store} (h : Stt a S) (l : a ≤ b) : Stt b S := by
  obtain ⟨cells, lefts, k, h0, h1, r⟩ := h
  exact ⟨cells, lefts, k, h0, by omega, r⟩
theorem dix_cells {S : Store} {a : Int} (h : S[2]? = some (.dct (stD a))) : dixO (.ref 2) (.str [99, 101, 108, 108, 115]) S = some (.ref 1, S) := by
  show ((dctAt S 2).bind fun kvs => dGet kvs _).map _ = _
  rw [dctAt_of S h]; rfl
theorem dix_lefts {S : Store} {a : Int} (h : S[2]? = some (.dct (stD a))) : dixO (.ref 2) (.str [108, 101, 102, 116, 115]) S = some (.ref 3, S) := by
  show ((dctAt S 2).bind fun kvs => dGet kvs _).map _ = _
  rw [dctAt_of S h]; rfl
theorem dix_at {S : Store} {a : Int} (h : S[2]? = some (.dct (stD a))) : dixO (.ref 2) (.str [97, 116]) S = some (.int a, S) := by
  show ((dctAt S 2).bind fun kvs => dGet kvs _).map _ = _
  rw [dctAt_of S h]; rfl
theorem put_at {S : Store} {a b : Int} (h : S[2]? = some (.dct (stD a))) : putO (.ref 2) (.str [97, 116]) (.int b) S = some (S.set 2 (.dct (stD b))) := by
  show ((dctAt S 2).bind fun kvs => if kvs.length < lim then some (S.set 2 (.dct (dPut kvs _ _))) else none) = _
  rw [dctAt_of S h]; rfl
theorem draw_tail {u q m : Int} {S : Store} {P : D → Store → Prop} (q0 : 0 ≤ q) (q1 : q < 100000) (h0 : 0 < m) (fin : ∀ v : Int, 0 ≤ v → v < m → P (.int v) S) :
    Ends ((C__law_mixed [D.int u, D.int q] S).bind fun a S => (C__law_mixed [a, D.int (40 + q)] S).bind fun a S => (Res.of (mulO a (D.int 2147483647) S)).bind fun a_1 S => (C__law_mixed [a, D.int (7 + q)] S).bind fun a S =>
      (Res.of (addO a_1 a S)).bind fun a S => (Res.of (intF [a] S)).bind fun a S => (Res.of (fdivO a (D.int 64) S)).bind fun a S => Res.of (modO a (D.int m) S)) P := by
  have k1 : q < 1000000 := by omega
  have k2 : 40 + q < 1000000 := by omega
  have k3 : 7 + q < 1000000 := by omega
  refine (mixed_ok (c := u) (k := q) q0 k1).thn ?_
  rintro d S2 ⟨rfl, w1, rfl, w1a, w1b⟩
  refine (mixed_ok (c := w1) (k := 40 + q) (by omega) k2).thn ?_
  rintro d S3 ⟨rfl, w2, rfl, w2a, w2b⟩
  have sm := small_of (i := w2) w2a (by omega)
  simp [sm]
  refine (mixed_ok (c := w2) (k := 7 + q) (by omega) k3).thn ?_
  rintro d S4 ⟨rfl, w3, rfl, w3a, w3b⟩
  simp [h0]
  exact fin _ (Int.emod_nonneg _ (by omega)) (Int.emod_lt_of_pos _ h0)
/-- a draw, by what the state holds -/
theorem draw_core {k m n p v u : Int} {S S1 S2 : Store} {P : D → Store → Prop} (k0 : 0 ≤ k) (k1 : k < 100000) (h0 : 0 < m) (h1 : m < 1000) (n0 : 0 < n) (hp : k % n = p) (g2 : S[2]? = some (.dct (stD k)))
    (put : putO (.ref 2) (.str [97, 116]) (.int (k + 1)) S = some S1) (e2 : S1[2]? = some (.dct (stD (k + 1)))) (ln : lenF [.ref 1] S1 = some (.int n, S1)) (ixl : ixO (.ref 3) (.int p) S1 = some (.int v, S1)) (ixc : ixO (.ref 1) (.int p) S1 = some (.int u, S1))
    (lp : lputO (.ref 3) (.int p) (.int (v / m)) S1 = some S2) (f1 : ∀ w : Int, 0 ≤ w → w < m → P (.int w) S1) (f2 : ∀ w : Int, 0 ≤ w → w < m → P (.int w) S2) : Ends (C__law_draw [.ref 2, .int m] S) P := by
  have m30 : m < 1073741824 := by omega
  simp only [C__law_draw, B__law_draw, ev_body, startE]
  simp only [List.map_cons, List.map_nil, List.length_cons, List.length_nil, List.replicate, List.cons_append, List.nil_append, Nat.reduceSub, Nat.reduceAdd]
  simp [dix_at g2, put, dix_cells e2, ln, n0, hp, dix_lefts e2, ixl]
  by_cases hv0 : 0 < v
  · simp [hv0, h0, m30, dix_lefts e2, lp]
    exact f2 _ (Int.emod_nonneg _ (by omega)) (Int.emod_lt_of_pos _ h0)
  · simp [hv0, dix_cells e2, ixc]
    exact draw_tail k0 k1 h0 f1
theorem draw_ok {a : Int} {S : Store} {m : Int} (h : Stt a S) (ha : a < 100000) (h0 : 0 < m) (h1 : m < 1000) :
    Ends (C__law_draw [.ref 2, .int m] S) fun d S' => (∃ v : Int, d = .int v ∧ 0 ≤ v ∧ v < m) ∧ Stt (a + 1) S' ∧ Fr S S' := by
  obtain ⟨cells, lefts, k, k0, hk, c0, hl, g1, g3, g2⟩ := h
  have l2 : 2 < S.length := lt_of_get g2
  obtain ⟨S1, hS1⟩ : ∃ S1, S1 = S.set 2 (.dct (stD (k + 1))) := ⟨_, rfl⟩
  have e1 : S1[1]? = some (.lst (cells.map .int)) := by rw [hS1, List.getElem?_set_ne (by decide)]; exact g1
  have e3 : S1[3]? = some (.lst (lefts.map .int)) := by rw [hS1, List.getElem?_set_ne (by decide)]; exact g3
  have e2 : S1[2]? = some (.dct (stD (k + 1))) := by rw [hS1]; exact List.getElem?_set_self l2
  have f1 : Fr S S1 := ⟨by rw [hS1]; simp, fun i o hi e => by rw [hS1, List.getElem?_set_ne (by omega)]; exact e⟩
  have put : putO (.ref 2) (.str [97, 116]) (.int (k + 1)) S = some S1 := by rw [hS1]; exact put_at g2
  have pr0 : 0 ≤ k % (cells.length : Int) := Int.emod_nonneg _ (by omega)
  have pr1 : k % (cells.length : Int) < (cells.length : Int) := Int.emod_lt_of_pos _ (by omega)
  obtain ⟨j, hj, jl⟩ : ∃ j : Nat, k % (cells.length : Int) = (j : Int) ∧ j < cells.length := ⟨(k % (cells.length : Int)).toNat, by omega, by omega⟩
  obtain ⟨v, hv⟩ : ∃ v, lefts[j]? = some v := ⟨_, List.getElem?_eq_getElem (by omega)⟩
  obtain ⟨u, hu⟩ : ∃ u, cells[j]? = some u := ⟨_, List.getElem?_eq_getElem jl⟩
  have ixl : ixO (.ref 3) (.int (j : Int)) S1 = some (.int v, S1) := by
    rw [ixO_ref _ _ _ _ e3, L2.atI_nat (by rw [List.getElem?_map, hv]; rfl)]; rfl
  have ixc : ixO (.ref 1) (.int (j : Int)) S1 = some (.int u, S1) := by
    rw [ixO_ref _ _ _ _ e1, L2.atI_nat (by rw [List.getElem?_map, hu]; rfl)]; rfl
  have ln : lenF [.ref 1] S1 = some (.int (cells.length : Int), S1) := by rw [lenF_ref _ _ _ e1]; simp
  have lp : lputO (.ref 3) (.int (j : Int)) (.int (v / m)) S1 = some (S1.set 3 (.lst ((lefts.set j (v / m)).map .int))) := by
    show (match S1[3]? with | some (.lst xs) => (L2.ixN xs.length _).map fun j => S1.set 3 (.lst (xs.set j _)) | _ => none) = _
    rw [e3]
    show (L2.ixN (lefts.map D.int).length _).map _ = _
    have : L2.ixN (lefts.map D.int).length (j : Int) = some j := by
      unfold L2.ixN
      rw [if_pos (by omega), if_pos (by rw [List.length_map]; omega), Int.toNat_natCast]
    rw [this]
    simp
  refine draw_core k0 (by omega) h0 h1 (n := (cells.length : Int)) (by omega) hj g2 put e2 ln ixl ixc lp (fun w w0 w1 => ⟨⟨w, rfl, w0, w1⟩, ⟨cells, lefts, k + 1, by omega, by omega, c0, hl, e1, e3, e2⟩, f1⟩) fun w w0 w1 => ⟨⟨w, rfl, w0, w1⟩, ⟨cells, lefts.set j (v / m), k + 1, by omega, by omega, c0, by simpa using hl, ?_, ?_, ?_⟩, f1.trans ⟨by simp, fun i o hi e => by rw [List.getElem?_set_ne (by omega)]; exact e⟩⟩
  · rw [List.getElem?_set_ne (by decide)]; exact e1
  · rw [List.getElem?_set_self (lt_of_get e3)]
  · rw [List.getElem?_set_ne (by decide)]; exact e2
end LK06

set_option Elab.async false
set_option linter.all false
set_option maxRecDepth 100000
set_option maxHeartbeats 1000000
namespace LK06
open Al
theorem Stt.set {a : Int} {S : Store} {n : Nat} {o : O} (h : Stt a S) (hn : 3 < n) : Stt a (S.set n o) := by
  obtain ⟨cells, lefts, k, h0, h1, h2, h4, h5, h6, h7⟩ := h
  exact ⟨cells, lefts, k, h0, h1, h2, h4, by rw [List.getElem?_set_ne (by omega)]; exact h5, by rw [List.getElem?_set_ne (by omega)]; exact h6, by rw [List.getElem?_set_ne (by omega)]; exact h7⟩
theorem Stt.app {a : Int} {S T : Store} (h : Stt a S) : Stt a (S ++ T) := h.of_pre (List.prefix_append _ _)
theorem Stt.lt {a : Int} {S : Store} (h : Stt a S) : 3 < S.length := by
  obtain ⟨cells, lefts, k, h0, h1, h2, h4, h5, h6, h7⟩ := h
  exact lt_of_get h6
theorem Fr.set {S S' : Store} {n : Nat} {o : O} (h : Fr S S') (hn : S.length ≤ n) : Fr S (S'.set n o) :=
  ⟨by rw [List.length_set]; exact h.len, fun i x hi e => by rw [List.getElem?_set_ne (by have := lt_of_get e; omega)]; exact h.keep i x hi e⟩
theorem Fr.app {S S' T : Store} (h : Fr S S') : Fr S (S' ++ T) := h.trans (.of_pre (List.prefix_append _ _))
/-- one of a list -/
theorem of_ok {a : Int} {S : Store} {n : Nat} {xs : List D} (h : Stt a S) (ha : a < 100000) (hn : 3 < n) (g : S[n]? = some (.lst xs)) (x0 : 0 < xs.length) (x1 : xs.length < 1000) :
    Ends (C__law_of [.ref 2, .ref n] S) fun d S' => d ∈ xs ∧ Stt (a + 1) S' ∧ Fr S S' := by
  simp only [C__law_of, B__law_of, ev_body, startE]
  simp [lenF_ref _ _ _ g]
  refine (draw_ok h ha (by omega) (by omega)).thn ?_
  rintro d S1 ⟨⟨v, rfl, v0, v1⟩, h1, f1⟩
  obtain ⟨j, rfl⟩ : ∃ j : Nat, v = (j : Int) := ⟨v.toNat, by omega⟩
  have jl : j < xs.length := by omega
  have g1 := f1.keep n _ hn g
  rw [ixO_ref _ _ _ _ g1, L2.atI_nat (List.getElem?_eq_getElem jl)]
  simp
  exact ⟨h1, f1⟩
end LK06

set_option Elab.async false
set_option linter.all false
set_option maxRecDepth 100000
set_option maxHeartbeats 1000000
namespace LK06
open Al
theorem cps {α : Type} {r : Res α} {Q : α → Store → Prop} (h : ∀ P : α → Store → Prop, (∀ a S, Q a S → P a S) → Ends r P) : Ends r Q := h Q fun _ _ q => q
/-! ### loops over ranges -/
theorem srcRg_nat {k : Nat} (h : k < 100000) : srcRg [.int (k : Int)] = some ⟨k + 1, fun i _ => if i < k then some (some (.int (i : Nat))) else some none⟩ := by
  have e : -(2 ^ 62) ≤ (k : Int) ∧ (k : Int) < 2 ^ 62 := by constructor <;> omega
  simp only [srcRg, if_pos e, Int.toNat_natCast]
theorem srcRg_int {j : Int} {k : Nat} (e : j = (k : Int)) (h : k < 100000) : srcRg [.int j] = some ⟨k + 1, fun i _ => if i < k then some (some (.int (i : Nat))) else some none⟩ := by rw [e]; exact srcRg_nat h
theorem for_range {n v : Nat} {body : SF} {Q : Out → Store → Prop} {ρ : Env} {S : Store} (I : Nat → Env → Store → Prop) (h0 : I 0 ρ S)
    (step : ∀ i ρ S, i < n → I i ρ S → Ends (body (ρ.set v (some (.int (i : Nat)))) S) fun o S1 => match o with
      | .nx ρ2 => I (i + 1) ρ2 S1
      | .ct ρ2 => I (i + 1) ρ2 S1
      | .bk ρ2 => Q (.nx ρ2) S1
      | .ret d => Q (.ret d) S1)
    (fin : ∀ ρ S, I n ρ S → Q (.nx ρ) S) : Ends (forF (fun i _ => if i < n then some (some (.int (i : Nat))) else some none) (.nm v) body (n + 1) 0 ρ S) Q := by
  refine for_ends n (fun i => .int (i : Nat)) I (fun i ρ S _ _ => rfl) ?_ fin _ 0 _ _ h0 (Nat.zero_le _) (by omega)
  intro i ρ S hi h
  exact ⟨_, rfl, step i ρ S hi h⟩
/-! ### the beginning -/
@[simp] theorem ev_qNil (ρ : Env) (S : Store) : qNil ρ S = .ok [] S := rfl
@[simp] theorem ev_qCons (k v : EF) (r : PFs) (ρ : Env) (S : Store) : qCons k v r ρ S = (k ρ S).bind fun x S1 => (v ρ S1).bind fun y S2 => (r ρ S2).bind fun ps S3 => .ok ((x, y) :: ps) S3 := rfl
@[simp] theorem ev_disp (q : PFs) (ρ : Env) (S : Store) : eDisp q ρ S = (q ρ (S ++ [.dct []])).bind fun ps S1 => match S1[S.length]?, mapO asKey ps with
  | some (.dct []), some kvs => if kvs.length ≤ 15 then .ok (.ref S.length) (S1.set S.length (.dct (dMerge [] kvs))) else .stuck
  | _, _ => .stuck := rfl
def lefts_ (ns : List Int) : List Int := ns.map fun c => if (1000000000000000000 : Int) ≤ c then c else 0
theorem pow_is (S : Store) : powO (.int 10) (.int 18) S = some (.int 1000000000000000000, S) := by rfl
def elB : EF := eIf (tOf (eOp geO (eVar 2) (eOp powO (eC (.int 10)) (eC (.int 18))))) (eVar 2) (eC (.int 0))
theorem begin_lc {ns : List Int} {a b : Option D} {S : Store} (h : ns.length < 1000) (g : S[1]? = some (.lst (ns.map .int))) :
    Ends (lcF (fun i S => (lstAt S 1).bind fun xs => nxL xs i) (.nm 2) tYesF elB S.length (ns.length + 1) 0 [a, b, none] (S ++ [.lst []])) fun d S' => d = .ref S.length ∧ S' = S ++ [.lst ((lefts_ ns).map .int)] := by
  refine lc_ends ns.length (fun i => (ns.map D.int).getD i .non) (fun i acc S' => acc = ((lefts_ ns).map D.int).take i ∧ S' = S ++ [.lst acc]) (by simp only [lim_is]; omega) ?_ ?_ ?_ _ 0 [] _ ⟨by simp, rfl⟩ (by simp) (by simp) (by omega) (by omega)
  · rintro i acc S' ⟨_, rfl⟩ hi
    have g' : (S ++ [O.lst acc])[1]? = some (.lst (ns.map .int)) := by rw [List.getElem?_append_left (lt_of_get g)]; exact g
    rw [lstAt_of _ g', Option.bind_some]
    have := nxL_is (ns.map D.int) i (by simpa using hi)
    simpa using this
  · rintro i acc S' hi ⟨rfl, rfl⟩ e
    refine ⟨_, rfl, ?_⟩
    have ei : (ns.map D.int).getD i .non = .int ns[i] := by simp [hi]
    rw [ei]
    have es : ((lefts_ ns).map D.int)[i]? = some (.int (if (1000000000000000000 : Int) ≤ ns[i] then ns[i] else 0)) := by simp [lefts_, hi]
    have sn := take_snoc es
    by_cases c : (1000000000000000000 : Int) ≤ ns[i]
    · rw [if_pos c] at sn
      simp [elB, pow_is, c]
      exact sn
    · rw [if_neg c] at sn
      simp [elB, pow_is, c]
      exact sn
  · rintro acc S' ⟨rfl, rfl⟩ e
    rw [List.take_of_length_le (by simp [lefts_])]
    exact ⟨rfl, rfl⟩
theorem mapO_ints (S : Store) : ∀ ns : List Int, mapO (toP 59 S) (ns.map D.int) = some (ns.map PySem.PyData.int)
  | [] => rfl
  | n :: ns => by simp only [List.map_cons, mapO, mapO_ints S ns]; rfl
theorem begin_tail {ns : List Int} {a : Option D} (h : ns.length < 1000) (h0 : 0 < ns.length) :
    Ends (eDisp (qCons (eC (.str [99, 101, 108, 108, 115])) (eVar 1) (qCons (eC (.str [108, 101, 102, 116, 115])) (eLc (iVal (eVar 1)) (.nm 2) tYesF elB [2]) (qCons (eC (.str [97, 116])) (eC (.int 0)) (qCons (eC (.str [114, 111, 111, 109])) (eC (.int 0)) qNil)))) [a, some (.ref 1), none] [.lst [], .lst (ns.map .int)]) fun d S' => d = .ref 2 ∧ Stt 0 S' := by
  have es : srcOf (.ref 1) [O.lst [], .lst (ns.map D.int), .dct []] = some ⟨ns.length + 1, fun i S => (lstAt S 1).bind fun xs => nxL xs i⟩ := by
    have l1 : lstAt [O.lst [], .lst (ns.map D.int), .dct []] 1 = some (ns.map D.int) := lstAt_of _ rfl
    simp only [srcOf, l1, Option.map_some, List.length_map]
  have lc := begin_lc (ns := ns) (a := a) (b := some (.ref 1)) (S := [.lst [], .lst (ns.map .int), .dct []]) h rfl
  simp only [List.length_cons, List.length_nil, Nat.reduceAdd] at lc
  simp [es, wipeE]
  simp only [List.cons_append, List.nil_append] at lc
  refine lc.thn ?_
  rintro d S' ⟨rfl, rfl⟩
  simp
  have e : mapO asKey [(D.str [99, 101, 108, 108, 115], D.ref 1), (D.str [108, 101, 102, 116, 115], D.ref 3), (D.str [97, 116], D.int 0), (D.str [114, 111, 111, 109], D.int 0)] = some (stD 0) := rfl
  rw [e]
  simp
  have e2 : dMerge [] (stD 0) = stD 0 := rfl
  rw [e2]
  simp [stD]
  exact ⟨ns, lefts_ ns, 0, by omega, by omega, h0, by simp [lefts_], rfl, by simp, rfl⟩
theorem begin_ok (ns : List Int) (h : ns.length ≤ 63) : Ends (C__law_begin [.scl (ns.map D.int)] []) fun d S' => d = .ref 2 ∧ Stt 0 S' := by
  have ne : neO (.scl (ns.map D.int)) (.ref 0) [O.lst []] = some (.bl (!ns.isEmpty), [O.lst []]) := by
    have t1 : toP 60 [O.lst []] (.scl (ns.map D.int)) = some (.list (ns.map PySem.PyData.int)) := by
      show (mapO (toP 59 [O.lst []]) (ns.map D.int)).map PySem.PyData.list = _
      rw [mapO_ints]; rfl
    have t2 : toP 60 [O.lst []] (.ref 0) = some (.list []) := rfl
    show (match toP 60 [O.lst []] (.scl (ns.map D.int)), toP 60 [O.lst []] (.ref 0) with | some p, some q => some (D.bl (!PySem.PyData.eqv p q), [O.lst []]) | _, _ => none) = _
    rw [t1, t2]
    cases ns <;> rfl
  have B : B__law_begin = sSeq (sSet 1 (eIf (tOf (eOp neO (eVar 0) (eLst aNil))) (eCall listF (aCons (eVar 0) aNil)) (eLst (aCons (eC (.int 0)) aNil)))) (sRet (eDisp (qCons (eC (.str [99, 101, 108, 108, 115])) (eVar 1) (qCons (eC (.str [108, 101, 102, 116, 115])) (eLc (iVal (eVar 1)) (.nm 2) tYesF elB [2]) (qCons (eC (.str [97, 116])) (eC (.int 0)) (qCons (eC (.str [114, 111, 111, 109])) (eC (.int 0)) qNil)))))) := rfl
  unfold C__law_begin
  rw [B]
  simp only [ev_body, startE]
  cases ns with
  | nil =>
    have t := begin_tail (ns := [0]) (a := some (.scl [])) (by simp) (by simp)
    revert t
    generalize eDisp _ = dd
    intro t
    simp at ne
    simp [ne]
    refine t.mono ?_
    rintro d S' ⟨rfl, h'⟩
    exact ⟨rfl, h'⟩
  | cons n ns =>
    have t := begin_tail (ns := n :: ns) (a := some (.scl ((n :: ns).map D.int))) (by omega) (by simp)
    have li : listF [.scl ((n :: ns).map D.int)] [O.lst []] = some (.ref 1, [O.lst [], .lst ((n :: ns).map D.int)]) := rfl
    revert t
    generalize eDisp _ = dd
    intro t
    simp at ne li t
    simp [ne, li]
    exact t
/-! ### a thing out of a list, by a draw -/
theorem pick {β : Type} {f : D → Store → Res β} {P : β → Store → Prop} {a m : Int} {S : Store} {n : Nat} {xs : List D} (h : Stt a S) (ha : a < 100000) (hn : 3 < n) (g : S[n]? = some (.lst xs)) (hm : m = (xs.length : Int)) (x0 : 0 < xs.length) (x1 : xs.length < 1000)
    (k : ∀ d S', d ∈ xs → Stt (a + 1) S' → Fr S S' → Ends (f d S') P) : Ends ((C__law_draw [.ref 2, .int m] S).bind fun v S1 => (Res.of (ixO (.ref n) v S1)).bind f) P := by
  subst hm
  refine (draw_ok h ha (by omega) (by omega)).thn ?_
  rintro d S1 ⟨⟨v, rfl, v0, v1⟩, h1, f1⟩
  obtain ⟨j, rfl⟩ : ∃ j : Nat, v = (j : Int) := ⟨v.toNat, by omega⟩
  have jl : j < xs.length := by omega
  rw [ixO_ref _ _ _ _ (f1.keep n _ hn g), L2.atI_nat (List.getElem?_eq_getElem jl)]
  simp only [Option.map_some, of_some, Res.bind_ok]
  exact k _ _ (List.getElem_mem jl) h1 f1
theorem pick1 {P : D → Store → Prop} {a m : Int} {S : Store} {n : Nat} {xs : List D} (h : Stt a S) (ha : a < 100000) (hn : 3 < n) (g : S[n]? = some (.lst xs)) (hm : m = (xs.length : Int)) (x0 : 0 < xs.length) (x1 : xs.length < 1000)
    (k : ∀ d S', d ∈ xs → Stt (a + 1) S' → Fr S S' → P d S') : Ends ((C__law_draw [.ref 2, .int m] S).bind fun v S1 => Res.of (ixO (.ref n) v S1)) P := by
  have := pick (f := fun d S => .ok d S) (P := P) h ha hn g hm x0 x1 fun d S' h1 h2 h3 => by rw [ends_ok]; exact k d S' h1 h2 h3
  simpa using this
/-! ### names -/
def tenN : List (List Nat) := [[65], [66], [67], [68, 95], [68, 66], [72, 79, 83, 84], [88], [89], [90, 95, 90], [65, 66, 67, 68, 69, 70, 71, 72]]
theorem tenN_ok : ∀ x ∈ tenN, nameB x = true := by decide
theorem popi_is {S : Store} {n j : Nat} {xs : List D} {y : D} (h : S[n]? = some (.lst xs)) (hj : xs[j]? = some y) (l : xs.length < 1000) : popM (.ref n) [.int (j : Int)] S = some (y, S.set n (.lst (xs.eraseIdx j))) := by
  have jl := lt_of_get hj
  have ei : L2.ixN xs.length (j : Int) = some j := by
    unfold L2.ixN
    rw [if_pos (by omega), if_pos (by omega), Int.toNat_natCast]
  have e : -(2 ^ 63) ≤ (j : Int) ∧ (j : Int) < 2 ^ 63 := by constructor <;> omega
  simp only [popM, h, if_pos e, ei, Option.bind_some, hj, Option.map_some]
theorem eraseIdx_map' {α β : Type} (f : α → β) (l : List α) (j : Nat) : (l.map f).eraseIdx j = (l.eraseIdx j).map f := by
  simp [List.eraseIdx_eq_take_drop_succ]
theorem names_ok {a mi : Int} {S : Store} {m : Nat} (hm : mi = (m : Int)) (h : Stt a S) (ha : a < 90000) (m1 : 1 ≤ m) (m6 : m ≤ 6) :
    Ends (C__law_names [.ref 2, .int mi] S) fun d S' => ∃ (n : Nat) (l : List (List Nat)), d = .ref n ∧ 3 < n ∧ S'[n]? = some (.lst (l.map .str)) ∧ l.length = m ∧ (∀ x ∈ l, nameB x = true) ∧ Stt (a + m) S' ∧ Fr S S' := by
  have l3 := h.lt
  refine cps fun P hP => ?_
  simp only [C__law_names, B__law_names, ev_body, startE]
  simp [srcRg_int hm (by omega)]
  refine (for_range (fun i ρ S' => ∃ (some_ found : List (List Nat)) (k : Option D), ρ = [some (.ref 2), some (.int mi), k, some (.ref S.length), some (.ref (S.length + 1))] ∧ S'[S.length]? = some (.lst (some_.map .str)) ∧ S'[S.length + 1]? = some (.lst (found.map .str)) ∧
      some_.length + i = 10 ∧ found.length = i ∧ (∀ x ∈ some_, nameB x = true) ∧ (∀ x ∈ found, nameB x = true) ∧ Stt (a + i) S' ∧ Fr S S')
    (Q := fun o S' => ∃ (found : List (List Nat)) (k : Option D), o = .nx [some (.ref 2), some (.int mi), k, some (.ref S.length), some (.ref (S.length + 1))] ∧ S'[S.length + 1]? = some (.lst (found.map .str)) ∧ found.length = m ∧ (∀ x ∈ found, nameB x = true) ∧ Stt (a + m) S' ∧ Fr S S') ?_ ?_ ?_).thn ?_
  · refine ⟨tenN, [], none, rfl, ?_, ?_, rfl, rfl, tenN_ok, by simp, by simpa using (h.app (T := _)), Fr.refl.app⟩
    · simp [tenN]
    · simp
  · rintro i ρ S1 hi ⟨so, fo, k, rfl, g1, g2, l1, l2, o1, o2, h1, f1⟩
    have p0 : 0 < so.length := by omega
    refine cps fun P hP => ?_
    simp [ty_list g1, ty_list g2, lenF_ref _ _ _ g1]
    refine (draw_ok h1 (by omega) (m := (so.length : Int)) (by omega) (by omega)).thn ?_
    rintro d S2 ⟨⟨v, rfl, v0, v1⟩, h2, f2⟩
    obtain ⟨j, rfl⟩ : ∃ j : Nat, v = (j : Int) := ⟨v.toNat, by omega⟩
    have jl : j < so.length := by omega
    have g1' := f2.keep _ _ (by omega) g1
    have g2' := f2.keep _ _ (by omega) g2
    have hj : (so.map D.str)[j]? = some (.str so[j]) := by rw [List.getElem?_map, List.getElem?_eq_getElem jl]; rfl
    rw [popi_is g1' hj (by simp; omega)]
    simp only [of_some, Res.bind_ok]
    have g3 : (S2.set S.length (.lst ((so.map D.str).eraseIdx j)))[S.length + 1]? = some (.lst (fo.map .str)) := by rw [List.getElem?_set_ne (by omega)]; exact g2'
    rw [append_is g3 (by simp; omega)]
    simp only [of_some, Res.bind_ok, ends_ok]
    refine hP _ _ ⟨so.eraseIdx j, fo ++ [so[j]], _, rfl, ?_, ?_, ?_, ?_, ?_, ?_, ?_, ?_⟩
    · rw [List.getElem?_set_ne (by omega), List.getElem?_set_self (lt_of_get g1'), eraseIdx_map']
    · rw [List.getElem?_set_self (lt_of_get g3)]; simp
    · rw [List.length_eraseIdx_of_lt jl]; omega
    · simp [l2]
    · intro x hx; exact o1 x (List.mem_of_mem_eraseIdx hx)
    · intro x hx
      rcases List.mem_append.mp hx with e | e
      · exact o2 x e
      · simp at e; subst e; exact o1 _ (List.getElem_mem jl)
    · have := (h2.set (n := S.length) (o := .lst ((so.map D.str).eraseIdx j)) (by omega)).set (n := S.length + 1) (o := .lst (fo.map D.str ++ [.str so[j]])) (by omega)
      simpa [Int.add_assoc] using this
    · exact ((f1.trans f2).set (by omega)).set (by omega)
  · rintro ρ S1 ⟨so, fo, k, rfl, g1, g2, l1, l2, o1, o2, h1, f1⟩
    exact ⟨fo, k, rfl, g2, l2, o2, h1, f1⟩
  · rintro o S1 ⟨fo, k, rfl, g2, l2, o2, h1, f1⟩
    have e : sortedF [.ref (S.length + 1)] S1 = some (.ref S1.length, S1 ++ [.lst ((sortT fo).map .str)]) := by
      show (strsOf (.ref (S.length + 1)) S1).bind _ = _
      rw [strsOf_is g2, Option.bind_some, if_pos (by simp only [lim_is]; omega)]
    simp [e]
    refine hP _ _ ⟨S1.length, sortT fo, rfl, ?_, ?_, ?_, ?_, h1.app, f1.app⟩
    · have := lt_of_get g2; omega
    · simp
    · rw [(sortT_perm fo).length_eq]; exact l2
    · intro x hx; exact o2 x ((sortT_perm fo).mem_iff.mp hx)
end LK06

set_option Elab.async false
set_option linter.all false
set_option maxRecDepth 100000
set_option maxHeartbeats 1000000
namespace LK06
open Al
def twlP : List (List Nat) := [[97], [98], [120], [97, 98], [97, 32, 98], [48], [45], [61], [58], [46, 47], [97, 61, 98], [95, 58, 61, 44, 64, 45]]
theorem twlP_ok : ∀ x ∈ twlP, plainB x = true := by decide
def twlS : List (List Nat) := [[], [45], [58, 45], [43], [58, 43], [63], [58, 63], [61], [58, 61], [], [58, 45], [43]]
theorem twlS_ok : ∀ x ∈ twlS, x ∈ sgns := by decide
theorem mem_strs {l : List (List Nat)} {d : D} (h : d ∈ l.map D.str) : ∃ x ∈ l, d = .str x := by
  obtain ⟨x, hx, rfl⟩ := List.mem_map.mp h
  exact ⟨x, hx, rfl⟩
theorem lplain_ok {a : Int} {S : Store} (h : Stt a S) (ha : a < 100000) : Ends (C__law_plain [.ref 2] S) fun d S' => ∃ x, d = .str x ∧ plainB x = true ∧ Stt (a + 1) S' ∧ Fr S S' := by
  have l3 := h.lt
  simp only [C__law_plain, B__law_plain, ev_body, startE]
  simp
  refine pick1 (a := a) (n := S.length) (xs := twlP.map .str) h.app ha l3 (by simp [twlP]) (by simp [twlP]) (by simp [twlP]) (by simp [twlP]) ?_
  intro d S' hd h1 f1
  obtain ⟨x, hx, rfl⟩ := mem_strs hd
  exact ⟨x, rfl, twlP_ok x hx, h1, Fr.refl.app.trans f1⟩
theorem Tx.of_snoc : ∀ (l : List Pc) (p : Pc), (Tx.of (l ++ [p])).l = l ++ [p] := fun l p => Tx.l_of _
theorem ok_snoc {M : Nat} {p : Pc} (hp : p.ok M = true) : ∀ {l : List Pc}, (Tx.of l).ok M = true → (∀ q, l.getLast? = some q → q.isPl = true → p.isPl = false) → (Tx.of (l ++ [p])).ok M = true
  | [], _, _ => by simp [Tx.of, Tx.ok, hp, Tx.hd]
  | [q], h, hq => by
    have := hq q rfl
    simp only [Tx.of, Tx.ok, Tx.hd, Bool.and_eq_true] at h
    simp only [List.cons_append, List.nil_append, Tx.of, Tx.ok, Tx.hd, hp, h.1.1]
    cases e : q.isPl with
    | false => simp
    | true => simp [this e]
  | q :: r :: l, h, hq => by
    have h' : q.ok M = true ∧ (!(q.isPl && r.isPl)) = true ∧ (Tx.of (r :: l)).ok M = true := by
      have h2 : (Tx.cons q (Tx.of (r :: l))).ok M = true := h
      rw [Tx.ok, Bool.and_eq_true, Bool.and_eq_true] at h2
      exact ⟨h2.1.1, h2.1.2, h2.2⟩
    have ih := ok_snoc hp (l := r :: l) h'.2.2 fun q' e => hq q' (by simpa using e)
    show (Tx.cons q (Tx.of (r :: l ++ [p]))).ok M = true
    rw [Tx.ok, h'.1, ih]
    have : (Tx.of (r :: l ++ [p])).hd = r.isPl := rfl
    rw [this, h'.2.1]
    rfl
mutual
theorem Pc.ok_mono : ∀ (p : Pc) (M N : Nat), M ≤ N → p.ok M = true → p.ok N = true
  | .pl x, M, N, l, h => by simpa [Pc.ok] using h
  | .pt n s t, M, N, l, h => by
    simp only [Pc.ok, Bool.and_eq_true] at h ⊢
    refine ⟨h.1, ?_⟩
    by_cases e : s = []
    · simp only [e, if_true] at h ⊢; exact h.2
    · simp only [e, if_false, Bool.and_eq_true, decide_eq_true_eq] at h ⊢
      exact ⟨⟨by omega, h.2.1.2⟩, Tx.ok_mono t (M - 1) (N - 1) (by omega) h.2.2⟩
theorem Tx.ok_mono : ∀ (t : Tx) (M N : Nat), M ≤ N → t.ok M = true → t.ok N = true
  | .nil, M, N, l, h => by simp [Tx.ok]
  | .cons p t, M, N, l, h => by
    simp only [Tx.ok, Bool.and_eq_true] at h ⊢
    exact ⟨⟨Pc.ok_mono p M N l h.1.1, h.1.2⟩, Tx.ok_mono t M N l h.2⟩
end
/-- xs == [] -/
theorem eq_nil {S : Store} {r e : Nat} {A : List D} (h1 : S[r]? = some (.lst A)) (h2 : S[e]? = some (.lst [])) (hf : ∀ d ∈ A, flat 59 d = true) : eqO (.ref r) (.ref e) S = some (.bl A.isEmpty, S) := by
  have h := ne_nil h1 h2 hf
  have u : neO (.ref r) (.ref e) S = (match toP 60 S (.ref r), toP 60 S (.ref e) with | some p, some q => some (D.bl (!PySem.PyData.eqv p q), S) | _, _ => none) := rfl
  have v : eqO (.ref r) (.ref e) S = (match toP 60 S (.ref r), toP 60 S (.ref e) with | some p, some q => some (D.bl (PySem.PyData.eqv p q), S) | _, _ => none) := rfl
  rw [u] at h
  rw [v]
  cases e1 : toP 60 S (.ref r) with
  | none => rw [e1] at h; cases h
  | some p =>
    cases e2 : toP 60 S (.ref e) with
    | none => rw [e1, e2] at h; cases h
    | some q =>
      rw [e1, e2] at h
      simp only [Option.some.injEq, Prod.mk.injEq, D.bl.injEq, and_true] at h ⊢
      cases e3 : PySem.PyData.eqv p q <;> rw [e3] at h <;> simp at h <;> simp [h]
/-! ### drawn texts -/
def ub : Nat → Int
  | 0 => 1
  | d + 1 => 5 + 3 * ub d
def tb (d : Nat) : Int := 2 + 3 * ub d
def nb : Nat → Nat
  | 0 => 0
  | d + 1 => 3 * (1 + nb d)
theorem ub_pos : ∀ d, 1 ≤ ub d
  | 0 => by decide
  | d + 1 => by have := ub_pos d; simp only [ub]; omega
def tPlainB : SF := sSeq (sIf (tOrF (tOf (eOp eqO (eVar 3) (eLst aNil))) (tNotF (tOf (eIsi isStr (eOp ixO (eVar 3) (eNeg (eC (.int 1)))))))) (sExpr (eM "list" appendM (eVar 3) (aCons (eCallD C__law_plain (aCons (eVar 0) aNil)) aNil))) sNx) sCt
def tPartB (r : CF) : SF := sSeq (sSet 5 (eOp ixO (eVar 1) (eCallD C__law_draw (aCons (eVar 0) (aCons (eCall lenF (aCons (eVar 1) aNil)) aNil)))))
    (sSeq (sSet 6 (eOp ixO (eLst (aCons (eC (.str [])) (aCons (eC (.str [45])) (aCons (eC (.str [58, 45])) (aCons (eC (.str [43])) (aCons (eC (.str [58, 43])) (aCons (eC (.str [63])) (aCons (eC (.str [58, 63])) (aCons (eC (.str [61])) (aCons (eC (.str [58, 61])) (aCons (eC (.str [])) (aCons (eC (.str [58, 45])) (aCons (eC (.str [43])) aNil))))))))))))) (eCallD C__law_draw (aCons (eVar 0) (aCons (eC (.int 12)) aNil)))))
    (sExpr (eM "list" appendM (eVar 3) (aCons (eTup (aCons (eVar 5) (aCons (eVar 6) (aCons (eIf (tOf (eOp eqO (eVar 6) (eC (.str [])))) (eTup aNil) (eCallD r (aCons (eVar 0) (aCons (eVar 1) (aCons (eOp subO (eVar 2) (eC (.int 1))) aNil))))) aNil)))) aNil))))
theorem B_law_text_eq (r : CF) : B__law_text r = sSeq (sSet 3 (eLst aNil)) (sSeq (sFor (iRange (aCons (eCallD C__law_draw (aCons (eVar 0) (aCons (eOp ixO (eLst (aCons (eC (.int 2)) (aCons (eC (.int 3)) (aCons (eC (.int 3)) (aCons (eC (.int 4)) aNil))))) (eCallD C__law_draw (aCons (eVar 0) (aCons (eC (.int 4)) aNil)))) aNil))) aNil)) (.nm 4)
    (sSeq (sIf (tOrF (tOf (eOp eqO (eVar 2) (eC (.int 0)))) (tOf (eOp eqO (eCallD C__law_draw (aCons (eVar 0) (aCons (eC (.int 3)) aNil))) (eC (.int 0))))) tPlainB sNx) (tPartB r))) (sRet (eCall tupleF (aCons (eVar 3) aNil)))) := rfl
/-- what is drawn so far -/
structure Tk (names : List (List Nat)) (deep i : Nat) (l : List Pc) : Prop where
  len : l.length ≤ i
  ok : (Tx.of l).ok deep = true
  nms : ∀ p ∈ l, ∀ x ∈ p.nms, x ∈ names
  few : ∀ p ∈ l, p.nms.length ≤ 1 + nb (deep - 1) ∧ (deep = 0 → p.nms.length = 0)
theorem Tk.flat {names : List (List Nat)} {deep i : Nat} {l : List Pc} (h : Tk names deep i l) (hd : deep ≤ 3) : ∀ d ∈ l.map Pc.d, flat 59 d = true := by
  intro d hm
  obtain ⟨p, hp, rfl⟩ := List.mem_map.mp hm
  have := Tx.ok_mem h.ok p (by rw [Tx.l_of]; exact hp)
  exact Pc.flat_ok p deep 59 this (by omega)
theorem Tk.snoc {names : List (List Nat)} {deep i : Nat} {l : List Pc} {p : Pc} (h : Tk names deep i l) (hp : p.ok deep = true) (hq : ∀ q, l.getLast? = some q → q.isPl = true → p.isPl = false) (h1 : ∀ x ∈ p.nms, x ∈ names) (h2 : p.nms.length ≤ 1 + nb (deep - 1) ∧ (deep = 0 → p.nms.length = 0)) : Tk names deep (i + 1) (l ++ [p]) := by
  refine ⟨by simp; exact h.len, ok_snoc hp h.ok hq, ?_, ?_⟩
  · intro q hq
    rcases List.mem_append.mp hq with e | e
    · exact h.nms q e
    · simp at e; subst e; exact h1
  · intro q hq
    rcases List.mem_append.mp hq with e | e
    · exact h.few q e
    · simp at e; subst e; exact h2
theorem Tk.more {names : List (List Nat)} {deep i : Nat} {l : List Pc} (h : Tk names deep i l) : Tk names deep (i + 1) l := ⟨by have := h.len; omega, h.ok, h.nms, h.few⟩
section
variable {names : List (List Nat)} {deep i fN nN : Nat} {l : List Pc} {b : Int} {S0 S : Store}
theorem plain_turn {v0 v1 v2 v4 v5 v6 : Option D} (t : Tk names deep i l) (hi : i ≤ 3) (hd : deep ≤ 3) (g : S[fN]? = some (.lst (l.map Pc.d))) (h : Stt b S) (hb : b < 100000) (f : Fr S0 S) (l3 : 3 < S0.length) (lf : S0.length ≤ fN) :
    Ends (tPlainB [some (.ref 2), v1, v2, some (.ref fN), v4, v5, v6] S) fun o S' => o = .ct [some (.ref 2), v1, v2, some (.ref fN), v4, v5, v6] ∧ ∃ l', S'[fN]? = some (.lst (l'.map Pc.d)) ∧ Tk names deep (i + 1) l' ∧ Stt (b + 1) S' ∧ Fr S0 S' := by
  have g' : (S ++ [O.lst []])[fN]? = some (.lst (l.map Pc.d)) := by rw [List.getElem?_append_left (lt_of_get g)]; exact g
  have ge : (S ++ [O.lst []])[S.length]? = some (.lst []) := by simp
  have eq := eq_nil g' ge (t.flat hd)
  have ty := ty_list g'
  have add : (∀ q, l.getLast? = some q → q.isPl = true → False) → Ends ((C__law_plain [.ref 2] (S ++ [O.lst []])).bind fun a S1 => (Res.of (appendM (.ref fN) [a] S1)).bind fun _ S2 => Res.ok (Out.ct [some (.ref 2), v1, v2, some (.ref fN), v4, v5, v6]) S2) fun o S' => o = .ct [some (.ref 2), v1, v2, some (.ref fN), v4, v5, v6] ∧ ∃ l', S'[fN]? = some (.lst (l'.map Pc.d)) ∧ Tk names deep (i + 1) l' ∧ Stt (b + 1) S' ∧ Fr S0 S' := by
    intro hq
    refine (lplain_ok (h.app (T := [O.lst []])) hb).thn ?_
    rintro d S1 ⟨x, rfl, px, h1, f1⟩
    have g1 := f1.keep _ _ (by omega) g'
    have len := t.len
    rw [append_is g1 (by simp only [List.length_map, lim_is]; omega)]
    simp only [of_some, Res.bind_ok, ends_ok]
    refine ⟨by simp, l ++ [.pl x], ?_, ?_, h1.set (by omega), ((f.app).trans f1).set lf⟩
    · rw [List.getElem?_set_self (lt_of_get g1)]; simp [Pc.d]
    · refine t.snoc (by simpa [Pc.ok] using px) (fun q e e' => (hq q e e').elim) (by simp [Pc.nms]) (by simp [Pc.nms])
  rcases List.eq_nil_or_concat l with e | ⟨l', q, e⟩
  · subst e
    simp [tPlainB, eq, ty]
    simpa using add (by simp)
  · have e : l = l' ++ [q] := by simpa using e
    subst e
    have ix : ixO (.ref fN) (.int (-1)) (S ++ [O.lst []]) = some (q.d, S ++ [O.lst []]) := by
      rw [ixO_ref _ _ _ _ g', List.map_append, List.map_cons, List.map_nil, L2.atI_last]; rfl
    cases hq : q.isPl with
    | true =>
      simp [tPlainB, eq, ix, kd_pc, hq]
      exact ⟨l' ++ [q], by simpa using g', t.more, (h.app).mono (by omega), f.app⟩
    | false =>
      simp [tPlainB, eq, ix, kd_pc, hq, ty]
      simpa using add (by simp [hq])
end
end LK06

set_option Elab.async false
set_option linter.all false
set_option maxRecDepth 100000
set_option maxHeartbeats 1000000
namespace LK06
open Al
/-- what a call for a text gives -/
def TextP (names : List (List Nat)) (deep : Nat) (c : Int) (S : Store) (d : D) (S' : Store) : Prop := ∃ t : Tx, d = .tup t.ds ∧ t.l.length ≤ 3 ∧ t.ok deep = true ∧ (∀ x ∈ t.nms, x ∈ names) ∧ t.nms.length ≤ nb deep ∧ Stt c S' ∧ Fr S S'
/-- the names in the state -/
structure Nms (names : List (List Nat)) (nN : Nat) (S : Store) : Prop where
  n3 : 3 < nN
  at_ : S[nN]? = some (.lst (names.map .str))
  pos : 0 < names.length
  few : names.length ≤ 6
  ok : ∀ x ∈ names, nameB x = true
theorem Nms.fr {names : List (List Nat)} {nN : Nat} {S S' : Store} (h : Nms names nN S) (f : Fr S S') : Nms names nN S' := ⟨h.n3, f.keep _ _ h.n3 h.at_, h.pos, h.few, h.ok⟩
section
variable {names : List (List Nat)} {deep i fN nN : Nat} {l : List Pc} {b : Int} {S0 S : Store}
theorem part_turn {r : CF} {v4 v5 v6 : Option D} (N : Nms names nN S) (t : Tk names (deep + 1) i l) (hi : i ≤ 3) (hd : deep + 1 ≤ 3) (g : S[fN]? = some (.lst (l.map Pc.d))) (h : Stt b S) (hb : b + 4 + 3 * ub deep < 100000) (f : Fr S0 S) (l3 : 3 < S0.length) (lf : S0.length ≤ fN)
    (ih : ∀ (a : Int) (S : Store), Nms names nN S → Stt a S → a + tb deep < 100000 → Ends (r [.ref 2, .ref nN, .int (deep : Int)] S) (TextP names deep (a + tb deep) S)) :
    Ends (tPartB r [some (.ref 2), some (.ref nN), some (.int ((deep : Int) + 1)), some (.ref fN), v4, v5, v6] S) fun o S' => ∃ v5 v6, o = .nx [some (.ref 2), some (.ref nN), some (.int ((deep : Int) + 1)), some (.ref fN), v4, v5, v6] ∧ ∃ l', S'[fN]? = some (.lst (l'.map Pc.d)) ∧ Tk names (deep + 1) (i + 1) l' ∧ Stt (b + 4 + 3 * ub deep) S' ∧ Fr S0 S' := by
  have ul := ub_pos deep
  have len := t.len
  simp [tPartB, lenF_ref _ _ _ N.at_]
  refine pick h (by omega) N.n3 N.at_ (by simp) (by simpa using N.pos) (by have := N.few; simp; omega) ?_
  intro d S1 hd1 h1 f1
  obtain ⟨x, hx, rfl⟩ := mem_strs hd1
  have g1 := f1.keep _ _ (by omega) g
  refine pick (n := S1.length) (xs := twlS.map .str) (h1.app) (by omega) h1.lt (by simp [twlS]) (by simp [twlS]) (by simp [twlS]) (by simp [twlS]) ?_
  intro d S2 hd2 h2 f2
  obtain ⟨s, hs, rfl⟩ := mem_strs hd2
  have f2' : Fr S1 S2 := Fr.refl.app.trans f2
  have g2 := f2'.keep _ _ (by omega) g1
  have f0 : Fr S0 S2 := (f.trans f1).trans f2'
  by_cases e : s = []
  · subst e
    simp [ty_list g2]
    rw [append_is g2 (by simp only [List.length_map, lim_is]; omega)]
    simp
    refine ⟨l ++ [.pt x [] .nil], ?_, ?_, (h2.set (by omega)).mono (by omega), f0.set lf⟩
    · rw [List.getElem?_set_self (lt_of_get g2)]; simp [Pc.d, Tx.ds]
    · refine t.snoc ?_ (fun _ _ _ => rfl) ?_ ?_
      · simp [Pc.ok, N.ok x hx, Tx.isNil, sgns]
      · simp [Pc.nms, Tx.nms, hx]
      · simp [Pc.nms, Tx.nms]
  · simp [ty_list g2, e]
    refine (ih (b + 1 + 1) S2 (N.fr (f1.trans f2')) h2 (by simp only [tb]; omega)).thn ?_
    rintro d S3 ⟨t', rfl, tl, tok, tn, tf, h3, f3⟩
    have g3 := f3.keep _ _ (by omega) g2
    rw [append_is g3 (by simp only [List.length_map, lim_is]; omega)]
    simp
    refine ⟨l ++ [.pt x s t'], ?_, ?_, (h3.set (by omega)).mono (by simp only [tb]; omega), (f0.trans f3).set lf⟩
    · rw [List.getElem?_set_self (lt_of_get g3)]; simp [Pc.d]
    · refine t.snoc ?_ (fun _ _ _ => rfl) ?_ ?_
      · have : t'.l.length ≤ 8 := by omega
        simp [Pc.ok, N.ok x hx, twlS_ok s hs, e, this, tok]
      · intro y hy
        simp only [Pc.nms, List.mem_cons] at hy
        rcases hy with rfl | hy
        · exact hx
        · exact tn y hy
      · simp only [Pc.nms, List.length_cons, Nat.add_sub_cancel]
        exact ⟨by omega, fun h => by omega⟩
end
theorem nms_bound {names : List (List Nat)} {deep i : Nat} {l : List Pc} (t : Tk names deep i l) (hi : i ≤ 3) : (Tx.of l).nms.length ≤ nb deep := by
  have e : ∀ (l : List Pc) (c : Nat), (∀ p ∈ l, p.nms.length ≤ c) → ((l.map Pc.nms).flatten).length ≤ l.length * c := by
    intro l c
    induction l with
    | nil => intro _; simp
    | cons p l ih =>
      intro h
      have h1 := h p (List.mem_cons_self ..)
      have h2 := ih fun q hq => h q (List.mem_cons_of_mem _ hq)
      simp only [List.map_cons, List.flatten_cons, List.length_append, List.length_cons, Nat.succ_mul]
      omega
  rw [Tx.nms_eq, Tx.l_of]
  have len := t.len
  cases deep with
  | zero =>
    have := e l 0 fun p hp => by have := (t.few p hp).2 rfl; omega
    simp only [nb]; omega
  | succ d =>
    have h1 := e l (1 + nb d) fun p hp => (t.few p hp).1
    have h2 : l.length * (1 + nb d) ≤ 3 * (1 + nb d) := Nat.mul_le_mul_right _ (by omega)
    simp only [nb]; omega
theorem ltext_ok : ∀ (n deep : Nat) (a : Int) (S : Store) (nN : Nat) (names : List (List Nat)), deep < n → deep ≤ 3 → Nms names nN S → Stt a S → a + tb deep < 100000 → Ends (C__law_text n [.ref 2, .ref nN, .int (deep : Int)] S) (TextP names deep (a + tb deep) S)
  | 0, _, _, _, _, _, h, _, _, _, _ => by omega
  | n + 1, deep, a, S, nN, names, hn, hd, N, h, ha => by
    have l3 := h.lt
    have ul := ub_pos deep
    have ha' : a + 2 + 3 * ub deep < 100000 := by simp only [tb] at ha; omega
    rw [C__law_text, B_law_text_eq]
    simp only [ev_body, startE]
    simp
    refine pick (n := S.length + 1) (xs := [.int 2, .int 3, .int 3, .int 4]) (h.app) (by omega) (by omega) (by simp) (by simp) (by simp) (by simp) ?_
    intro d S1 hd1 h1 f1
    obtain ⟨m, rfl, m0, m4⟩ : ∃ m : Int, d = .int m ∧ 0 < m ∧ m ≤ 4 := by
      simp at hd1
      rcases hd1 with rfl | rfl | rfl <;> exact ⟨_, rfl, by decide, by decide⟩
    refine (draw_ok h1 (by omega) m0 (by omega)).thn ?_
    rintro d S2 ⟨⟨v, rfl, v0, v1⟩, h2, f2⟩
    obtain ⟨k, rfl⟩ : ∃ k : Nat, v = (k : Int) := ⟨v.toNat, by omega⟩
    have k3 : k ≤ 3 := by omega
    rw [srcRg_nat (by omega)]
    simp only [ofSrc_some, Res.bind_ok]
    have fS : Fr S S2 := by
      have : Fr S (S ++ [O.lst [], O.lst [.int 2, .int 3, .int 3, .int 4]]) := Fr.refl.app
      exact (this.trans f1).trans f2
    have g2 : S2[S.length]? = some (.lst []) := (f1.trans f2).keep _ _ (by omega) (by simp)
    refine (for_range (fun i ρ S' => ∃ l v4 v5 v6, ρ = [some (.ref 2), some (.ref nN), some (.int (deep : Int)), some (.ref S.length), v4, v5, v6] ∧ S'[S.length]? = some (.lst (l.map Pc.d)) ∧ Tk names deep i l ∧ Stt (a + 2 + (i : Int) * ub deep) S' ∧ Fr S S')
      (Q := fun o S' => ∃ l v4 v5 v6, o = .nx [some (.ref 2), some (.ref nN), some (.int (deep : Int)), some (.ref S.length), v4, v5, v6] ∧ S'[S.length]? = some (.lst (l.map Pc.d)) ∧ Tk names deep k l ∧ Stt (a + tb deep) S' ∧ Fr S S') ?_ ?_ ?_).thn ?_
    · refine ⟨[], none, none, none, rfl, by simpa using g2, ⟨by simp, by simp [Tx.of, Tx.ok], by simp, by simp⟩, ?_, fS⟩
      have : a + 1 + 1 = a + 2 + (0 : Nat) * ub deep := by simp; omega
      rw [← this]; exact h2
    · rintro i ρ S3 hi ⟨l, v4, v5, v6, rfl, g3, t3, h3, f3⟩
      have e1 : ((i : Int) + 1) * ub deep = (i : Int) * ub deep + ub deep := by rw [Int.add_mul, Int.one_mul]
      have e2 : (i : Int) * ub deep ≤ 2 * ub deep := Int.mul_le_mul_of_nonneg_right (by omega) (by omega)
      cases deep with
      | zero =>
        simp
        have hu : ub 0 = 1 := rfl
        refine (plain_turn (v0 := none) (v4 := some (.int (i : Nat))) (v1 := some (.ref nN)) (v2 := some (.int 0)) (v5 := v5) (v6 := v6) t3 (by omega) hd g3 h3 (by omega) f3 l3 (Nat.le_refl _)).thn ?_
        rintro o S4 ⟨rfl, l', g4, t4, h4, f4⟩
        simp
        refine ⟨l', g4, t4, h4.mono (by omega), f4⟩
      | succ deep =>
        have hu : ub (deep + 1) = 5 + 3 * ub deep := rfl
        have ud := ub_pos deep
        have z : ((deep : Int) + 1 == 0) = false := by simp; omega
        simp [z]
        refine (draw_ok h3 (by omega) (m := 3) (by omega) (by omega)).thn ?_
        rintro d S4 ⟨⟨v, rfl, v0, v1⟩, h4, f4⟩
        have g4 := f4.keep _ _ (by omega) g3
        by_cases hv : v = 0
        · subst hv
          simp
          refine (plain_turn (v0 := none) (v4 := some (.int (i : Nat))) (v1 := some (.ref nN)) (v2 := some (.int ((deep : Int) + 1))) (v5 := v5) (v6 := v6) t3 (by omega) hd g4 h4 (by omega) (f3.trans f4) l3 (Nat.le_refl _)).thn ?_
          rintro o S5 ⟨rfl, l', g5, t5, h5, f5⟩
          simp
          refine ⟨l', g5, t5, h5.mono (by omega), f5⟩
        · have hv' : (v == 0) = false := by simpa using hv
          simp [hv']
          refine (part_turn (v4 := some (.int (i : Nat))) (v5 := v5) (v6 := v6) (N.fr (f3.trans f4)) t3 (by omega) hd g4 h4 (by omega) (f3.trans f4) l3 (Nat.le_refl _) (fun a S N h ha => ltext_ok n deep a S nN names (by omega) (by omega) N h ha)).mono ?_
          rintro o S5 ⟨w5, w6, rfl, l', g5, t5, h5, f5⟩
          simp
          refine ⟨l', g5, t5, h5.mono (by omega), f5⟩
    · rintro ρ S3 ⟨l, v4, v5, v6, rfl, g3, t3, h3, f3⟩
      have e2 : (k : Int) * ub deep ≤ 3 * ub deep := Int.mul_le_mul_of_nonneg_right (by omega) (by omega)
      exact ⟨l, v4, v5, v6, rfl, g3, t3, h3.mono (by simp only [tb]; omega), f3⟩
    · rintro o S3 ⟨l, v4, v5, v6, rfl, g3, t3, h3, f3⟩
      simp [tuple_is g3]
      refine ⟨Tx.of l, ?_, ?_, t3.ok, ?_, nms_bound t3 k3, h3, f3⟩
      · rw [Tx.ds_eq, Tx.l_of]
      · rw [Tx.l_of]; have := t3.len; omega
      · intro x hx
        rw [Tx.nms_eq, Tx.l_of] at hx
        obtain ⟨y, hy, hx⟩ := List.mem_flatten.mp hx
        obtain ⟨p, hp, rfl⟩ := List.mem_map.mp hy
        exact t3.nms p hp x hx
end LK06

set_option Elab.async false
set_option linter.all false
set_option maxRecDepth 100000
set_option maxHeartbeats 1000000
namespace LK06
open Al
theorem ub2 : ub 2 = 29 := rfl
theorem tb2 : tb 2 = 89 := rfl
theorem tb3 : tb 3 = 278 := rfl
theorem nb2 : nb 2 = 12 := rfl
theorem ok4_of {t : Tx} {M : Nat} (hl : t.l.length ≤ 8) (h : t.ok M = true) (hm : M ≤ 3) : t.ok4 = true := by
  simp only [Tx.ok4, Bool.and_eq_true, decide_eq_true_eq]
  exact ⟨hl, Tx.ok_mono t M 3 hm h⟩
/-- a drawn row -/
structure RowP (names : List (List Nat)) (r : Rw) : Prop where
  ok : r.ok = true
  own : ∀ x ∈ r.own, x ∈ names
  nms : ∀ x ∈ r.txt.nms, x ∈ names
  few : r.txt.nms.length ≤ 12
theorem lrow_ok {a : Int} {S : Store} {nN : Nat} {names : List (List Nat)} (N : Nms names nN S) (h : Stt a S) (ha : a < 90000) : Ends (C__law_row [.ref 2, .ref nN] S) fun d S' => ∃ r, d = r.d ∧ RowP names r ∧ Stt (a + 91) S' ∧ Fr S S' := by
  simp only [C__law_row, B__law_row, ev_body, startE]
  simp
  refine (draw_ok h (by omega) (m := 8) (by omega) (by omega)).thn ?_
  rintro d S1 ⟨⟨v, rfl, v0, v1⟩, h1, f1⟩
  have N1 := N.fr f1
  simp [lenF_ref _ _ _ N1.at_]
  refine pick h1 (by omega) N1.n3 N1.at_ (by simp) (by simpa using N1.pos) (by have := N1.few; simp; omega) ?_
  intro d S2 hd2 h2 f2
  obtain ⟨x, hx, rfl⟩ := mem_strs hd2
  have N2 := N1.fr f2
  have nx := N.ok x hx
  by_cases v00 : v = 0
  · subst v00
    rw [if_pos rfl]
    simp
    exact ⟨.drop x, rfl, ⟨by simpa [Rw.ok] using nx, by simpa [Rw.own] using hx, by simp [Rw.txt, Tx.nms], by simp [Rw.txt, Tx.nms]⟩, h2.mono (by omega), f1.trans f2⟩
  · rw [if_neg v00]
    simp
    have go : ∀ S3 : Store, Fr S S3 → Nms names nN S3 → Stt (a + 1 + 1) S3 → Ends (C__law_text 8 [.ref 2, .ref nN, .int 2] S3) fun d S' => ∃ t : Tx, d = .tup t.ds ∧ t.ok4 = true ∧ (∀ x ∈ t.nms, x ∈ names) ∧ t.nms.length ≤ 12 ∧ Stt (a + 91) S' ∧ Fr S S' := by
      intro S3 f3 N3 h3
      refine (ltext_ok 8 2 (a + 1 + 1) S3 nN names (by omega) (by omega) N3 h3 (by rw [tb2]; omega)).mono ?_
      rintro d S4 ⟨t, rfl, tl, tok, tn, tf, h4, f4⟩
      exact ⟨t, rfl, ok4_of (by omega) tok (by omega), tn, tf, h4.mono (by rw [tb2]; omega), f3.trans f4⟩
    by_cases v01 : v = 1
    · subst v01
      try rw [if_pos rfl]
      simp
      refine (go S2 (f1.trans f2) N2 h2).thn ?_
      rintro d S3 ⟨t, rfl, tok, tn, tf, h3, f3⟩
      simp
      exact ⟨.check t, rfl, ⟨by simpa [Rw.ok] using tok, by simp [Rw.own], by simpa [Rw.txt] using tn, by simpa [Rw.txt] using tf⟩, h3, f3⟩
    · simp [v01]
      have l2 := h2.lt
      have e : v % 2 = 0 ∨ v % 2 = 1 := by omega
      have gl : (S2 ++ [O.lst [.str [115, 101, 116], .str [103, 105, 118, 101]]])[S2.length]? = some (.lst [.str [115, 101, 116], .str [103, 105, 118, 101]]) := by simp
      rcases e with e | e
      · rw [e, ixO_ref _ _ _ _ gl]
        simp
        refine (go _ (f1.trans f2).app (N2.fr Fr.refl.app) h2.app).thn ?_
        rintro d S3 ⟨t, rfl, tok, tn, tf, h3, f3⟩
        simp
        exact ⟨.set x t, rfl, ⟨by simpa [Rw.ok, nx] using tok, by simpa [Rw.own] using hx, by simpa [Rw.txt] using tn, by simpa [Rw.txt] using tf⟩, h3, f3⟩
      · rw [e, ixO_ref _ _ _ _ gl]
        simp
        refine (go _ (f1.trans f2).app (N2.fr Fr.refl.app) h2.app).thn ?_
        rintro d S3 ⟨t, rfl, tok, tn, tf, h3, f3⟩
        simp
        exact ⟨.give x t, rfl, ⟨by simpa [Rw.ok, nx] using tok, by simpa [Rw.own] using hx, by simpa [Rw.txt] using tn, by simpa [Rw.txt] using tf⟩, h3, f3⟩
/-! ### names that are few -/
theorem nodup_le : ∀ {l m : List (List Nat)}, l.Nodup → (∀ x ∈ l, x ∈ m) → l.length ≤ m.length
  | [], _, _, _ => by simp
  | x :: l, m, nd, h => by
    have hx := h x (List.mem_cons_self ..)
    have nx := (List.nodup_cons.mp nd)
    have ih := nodup_le (m := m.erase x) nx.2 fun y hy => (List.mem_erase_of_ne (fun e => nx.1 (by rw [← e]; exact hy))).mpr (h y (List.mem_cons_of_mem _ hy))
    rw [List.length_erase_of_mem hx] at ih
    have := List.length_pos_of_mem hx
    simp only [List.length_cons]
    omega
theorem dedT_few {l m : List (List Nat)} (h : ∀ x ∈ l, x ∈ m) : (dedT l).length ≤ m.length := nodup_le (dedT_nodup l) fun x hx => h x ((dedT_mem x l).1 hx)
theorem file_of {rows : List Rw} {m : List (List Nat)} (hl : rows.length ≤ 40) (ok : ∀ r ∈ rows, r.ok = true) (few : ∀ r ∈ rows, r.txt.nms.length ≤ 40) (own : ∀ r ∈ rows, ∀ x ∈ r.own, x ∈ m) (nms : ∀ r ∈ rows, ∀ x ∈ r.txt.nms, x ∈ m) (hm : m.length ≤ 12) : FileOk rows := by
  have own1 : ∀ r : Rw, r.own.length ≤ 1 := by intro r; cases r <;> simp [Rw.own]
  have e : ∀ (f : Rw → List (List Nat)) (c : Nat) (l : List Rw), (∀ r ∈ l, (f r).length ≤ c) → ((l.map f).flatten).length ≤ l.length * c := by
    intro f c l
    induction l with
    | nil => intro _; simp
    | cons p l ih =>
      intro h
      have h1 := h p (List.mem_cons_self ..)
      have h2 := ih fun q hq => h q (List.mem_cons_of_mem _ hq)
      simp only [List.map_cons, List.flatten_cons, List.length_append, List.length_cons, Nat.succ_mul]
      omega
  refine ⟨hl, ok, ?_, ?_⟩
  · have h1 := e Rw.own 1 rows fun r _ => own1 r
    have h2 := e (fun r => r.txt.nms) 40 rows few
    rw [allN, List.length_append]
    omega
  · refine Nat.le_trans (dedT_few (m := m) ?_) hm
    intro x hx
    rw [allN] at hx
    rcases List.mem_append.mp hx with hx | hx
    · obtain ⟨y, hy, hx⟩ := List.mem_flatten.mp hx
      obtain ⟨r, hr, rfl⟩ := List.mem_map.mp hy
      exact own r hr x hx
    · obtain ⟨y, hy, hx⟩ := List.mem_flatten.mp hx
      obtain ⟨r, hr, rfl⟩ := List.mem_map.mp hy
      exact nms r hr x hx
theorem lfile_ok {a : Int} {S : Store} {nN m : Nat} {names : List (List Nat)} (N : Nms names nN S) (h : Stt a S) (ha : a + 4000 < 90000) (hm : m ≤ 40) : Ends (C__law_file [.ref 2, .ref nN, .int (m : Int)] S) fun d S' => ∃ rows, d = .tup (rows.map Rw.d) ∧ FileOk rows ∧ Stt (a + 3641) S' ∧ Fr S S' := by
  have l3 := h.lt
  simp only [C__law_file, B__law_file, ev_body, startE]
  simp
  refine (draw_ok h (by omega) (m := (m : Int) + 1) (by omega) (by omega)).thn ?_
  rintro d S1 ⟨⟨v, rfl, v0, v1⟩, h1, f1⟩
  obtain ⟨k, rfl⟩ : ∃ k : Nat, v = (k : Int) := ⟨v.toNat, by omega⟩
  have l1 := h1.lt
  rw [srcRg_nat (by omega)]
  simp [wipeE]
  refine Ends.thn (Q := fun d S' => ∃ rows : List Rw, d = .ref S1.length ∧ S'[S1.length]? = some (.lst (rows.map Rw.d)) ∧ rows.length = k ∧ (∀ r ∈ rows, RowP names r) ∧ Stt (a + 1 + (k : Int) * 91) S' ∧ Fr S S') ?_ ?_
  · refine lc_ends k (fun i => .int (i : Nat)) (fun i acc S' => ∃ rows : List Rw, acc = rows.map Rw.d ∧ rows.length = i ∧ (∀ r ∈ rows, RowP names r) ∧ Stt (a + 1 + (i : Int) * 91) S' ∧ Fr S S') (by simp only [lim_is]; omega) (fun i acc S' _ _ => rfl) ?_ ?_ _ 0 [] _ ⟨[], rfl, rfl, by simp, by simpa using h1.app, f1.app⟩ (by simp) (by simp) (by omega) (by omega)
    · rintro i acc S2 hi ⟨rows, rfl, rl, rp, h2, f2⟩ e
      refine ⟨_, rfl, ?_⟩
      simp
      refine (lrow_ok (N.fr f2) h2 (by omega)).mono ?_
      rintro d S3 ⟨r, rfl, rr, h3, f3⟩
      refine ⟨f3.keep _ _ (by omega) e, rows ++ [r], by simp, by simp [rl], ?_, ?_, ((f2.trans f3).set (by have := f1.len; omega))⟩
      · intro q hq
        rcases List.mem_append.mp hq with z | z
        · exact rp q z
        · simp at z; subst z; exact rr
      · exact (h3.set (by omega)).mono (by omega)
    · rintro acc S2 ⟨rows, rfl, rl, rp, h2, f2⟩ e
      exact ⟨rows, rfl, e, rl, rp, h2, f2⟩
  · rintro d S2 ⟨rows, rfl, g2, rl, rp, h2, f2⟩
    simp [tuple_is g2]
    exact ⟨rows, rfl, file_of (m := names) (by omega) (fun r hr => (rp r hr).ok) (fun r hr => by have := (rp r hr).few; omega) (fun r hr => (rp r hr).own) (fun r hr => (rp r hr).nms) (by have := N.few; omega), h2.mono (by omega), f2⟩
end LK06

set_option Elab.async false
set_option linter.all false
set_option maxRecDepth 100000
set_option maxHeartbeats 1000000
namespace LK06
open Al
/-! ### texts at their bounds -/
def edgeN : List (List Nat) := [[65], [90, 95], [65, 66, 67, 68, 69, 70, 71, 72], [88, 95, 89, 95, 90, 95, 65, 95], [78], [79, 95, 79]]
theorem edgeN_ok : ∀ x ∈ edgeN, nameB x = true := by decide
def fourN : List (List Nat) := [[65], [90, 95], [65, 66, 67, 68, 69, 70, 71, 72], [88, 95, 89, 95, 90, 95, 65, 95]]
theorem fourN_in : ∀ x ∈ fourN, x ∈ edgeN := by decide
def twoN : List (List Nat) := [[78], [79, 95, 79]]
theorem twoN_in : ∀ x ∈ twoN, x ∈ edgeN := by decide
structure Wd (i : Nat) (l : List Pc) : Prop where
  len : l.length = i
  ok : (Tx.of l).ok 3 = true
  nms : ∀ p ∈ l, ∀ x ∈ p.nms, x ∈ edgeN
  few : ∀ p ∈ l, p.nms.length ≤ 1
theorem Wd.snoc {i : Nat} {l : List Pc} {p : Pc} (h : Wd i l) (hp : p.ok 3 = true) (hq : ∀ q, l.getLast? = some q → q.isPl = true → p.isPl = false) (h1 : ∀ x ∈ p.nms, x ∈ edgeN) (h2 : p.nms.length ≤ 1) : Wd (i + 1) (l ++ [p]) := by
  refine ⟨by simp; exact h.len, ok_snoc hp h.ok hq, ?_, ?_⟩
  · intro q hq
    rcases List.mem_append.mp hq with e | e
    · exact h.nms q e
    · simp at e; subst e; exact h1
  · intro q hq
    rcases List.mem_append.mp hq with e | e
    · exact h.few q e
    · simp at e; subst e; exact h2
def eJoin : EF := eLc (iRange (aCons (eC (.int 20)) aNil)) (.nm 8) tYesF (eOp ixO (eVar 1) (eCallD C__law_draw (aCons (eVar 0) (aCons (eC (.int 45)) aNil)))) [8]
def eTest : TF := tOrF (tAndF (tOf (eOp gtO (eVar 4) (eC (.int 0)))) (tOf (eIsi isStr (eOp ixO (eVar 3) (eNeg (eC (.int 1))))))) (tOf (eOp gtO (eCallD C__law_draw (aCons (eVar 0) (aCons (eC (.int 3)) aNil))) (eC (.int 0))))
def eTurn : SF := sSeq (sPar 6 7 (aCons (eCallD C__law_of (aCons (eVar 0) (aCons (eVar 2) aNil))) (aCons (eCallD C__law_of (aCons (eVar 0) (aCons (eLst (aCons (eC (.str [65])) (aCons (eC (.str [90, 95])) (aCons (eC (.str [65, 66, 67, 68, 69, 70, 71, 72])) (aCons (eC (.str [88, 95, 89, 95, 90, 95, 65, 95])) aNil))))) aNil))) aNil)))
    (sIf eTest (sExpr (eM "list" appendM (eVar 3) (aCons (eTup (aCons (eVar 7) (aCons (eVar 6) (aCons (eTup aNil) aNil)))) aNil))) (sExpr (eM "list" appendM (eVar 3) (aCons (eM "str" joinM (eC (.str [])) (aCons eJoin aNil)) aNil))))
def eDeep : SF := sSet 5 (eTup (aCons (eTup (aCons (eCallD C__law_of (aCons (eVar 0) (aCons (eLst (aCons (eC (.str [78])) (aCons (eC (.str [79, 95, 79])) aNil))) aNil))) (aCons (eCallD C__law_of (aCons (eVar 0) (aCons (eSl (eVar 2) (pSome (eC (.int 1))) pNone) aNil))) (aCons (eVar 5) aNil)))) (aCons (eC (.str [58, 45])) aNil)))
theorem B_edge_eq : B__law_edge = sSeq (sSet 1 (eC (.str plains)))
    (sSeq (sSet 2 (eLst (aCons (eC (.str [])) (aCons (eC (.str [45])) (aCons (eC (.str [58, 45])) (aCons (eC (.str [43])) (aCons (eC (.str [58, 43])) (aCons (eC (.str [63])) (aCons (eC (.str [58, 63])) (aCons (eC (.str [61])) (aCons (eC (.str [58, 61])) aNil)))))))))))
    (sSeq (sSet 3 (eLst aNil))
    (sSeq (sFor (iRange (aCons (eC (.int 8)) aNil)) (.nm 4) eTurn)
    (sSeq (sSet 5 (eTup (aCons (eC (.str [101, 110, 100])) aNil)))
    (sSeq (sFor (iRange (aCons (eC (.int 3)) aNil)) (.nm 4) eDeep)
    (sRet (eTup (aCons (eCall tupleF (aCons (eVar 3) aNil)) (aCons (eVar 5) aNil))))))))) := rfl
theorem join20 {a : Int} {S : Store} {v2 v3 v4 v5 v6 v7 v8 : Option D} (h : Stt a S) (ha : a + 100 < 100000) : Ends (eJoin [some (.ref 2), some (.str plains), v2, v3, v4, v5, v6, v7, v8] S) fun d S' => ∃ (n : Nat) (x : List Nat), d = .ref n ∧ S'[n]? = some (.lst ((x.map fun c => [c]).map .str)) ∧ x.length = 20 ∧ (∀ c ∈ x, c ∈ plains) ∧ Stt (a + 20) S' ∧ Fr S S' := by
  have l3 := h.lt
  have sr := srcRg_nat (k := 20) (by omega)
  simp only [Int.cast_ofNat_Int] at sr
  refine cps fun P hP => ?_
  simp [eJoin, sr, wipeE]
  refine lc_ends 20 (fun i => .int (i : Nat)) (fun i acc S' => ∃ x : List Nat, acc = (x.map fun c => [c]).map .str ∧ x.length = i ∧ (∀ c ∈ x, c ∈ plains) ∧ Stt (a + (i : Int)) S' ∧ Fr S S') (by simp only [lim_is]; omega) (fun i acc S' _ _ => rfl) ?_ ?_ _ 0 [] _ ⟨[], rfl, rfl, by simp, by simpa using h.app, Fr.refl.app⟩ (by simp) (by simp) (by omega) (by omega)
  · rintro i acc S2 hi ⟨x, rfl, xl, xp, h2, f2⟩ e
    refine ⟨_, rfl, ?_⟩
    simp
    refine (draw_ok h2 (by omega) (m := 45) (by omega) (by omega)).thn ?_
    rintro d S3 ⟨⟨v, rfl, v0, v1⟩, h3, f3⟩
    obtain ⟨j, rfl⟩ : ∃ j : Nat, v = (j : Int) := ⟨v.toNat, by omega⟩
    have jl : j < plains.length := by have : plains.length = 45 := rfl; omega
    have z : plains.length ≤ 16777216 := by have : plains.length = 45 := rfl; omega
    rw [ixO_str, L2.atI_nat (List.getElem?_eq_getElem jl)]
    simp [z]
    refine ⟨f3.keep _ _ l3 (by simpa using e), x ++ [plains[j]], by simp, by simp [xl], ?_, ?_, (f2.trans f3).set (Nat.le_refl _)⟩
    · intro c hc
      rcases List.mem_append.mp hc with z | z
      · exact xp c z
      · simp at z; subst z; exact List.getElem_mem jl
    · exact (h3.set (by omega)).mono (by omega)
  · rintro acc S2 ⟨x, rfl, xl, xp, h2, f2⟩ e
    exact hP _ _ ⟨S.length, x, rfl, e, xl, xp, h2, f2⟩
theorem test_ok {a : Int} {S : Store} {fN i : Nat} {l : List Pc} {v1 v2 v5 v6 v7 v8 : Option D} (h : Stt a S) (ha : a < 100000) (w : Wd i l) (g : S[fN]? = some (.lst (l.map Pc.d))) :
    Ends (eTest [some (.ref 2), v1, v2, some (.ref fN), some (.int (i : Nat)), v5, v6, v7, v8] S) fun b S' => (b = false → ∀ q, l.getLast? = some q → q.isPl = true → False) ∧ Stt (a + 1) S' ∧ Fr S S' := by
  have fin : (∀ q, l.getLast? = some q → q.isPl = true → False) → Ends ((C__law_draw [.ref 2, .int 3] S).bind fun y S1 => (Res.of (gtO y (.int 0) S1)).bind asB) fun b S' => (b = false → ∀ q, l.getLast? = some q → q.isPl = true → False) ∧ Stt (a + 1) S' ∧ Fr S S' := by
    intro hq
    refine cps fun P hP => ?_
    refine (draw_ok h ha (m := 3) (by omega) (by omega)).thn ?_
    rintro d S3 ⟨⟨v, rfl, v0, v1⟩, h3, f3⟩
    simp
    exact hP _ _ ⟨fun _ => hq, h3, f3⟩
  rcases List.eq_nil_or_concat l with e | ⟨l', q, e⟩
  · subst e
    have : i = 0 := by have := w.len; simpa using this.symm
    subst this
    simp [eTest]
    simpa using fin (by simp)
  · have e : l = l' ++ [q] := by simpa using e
    subst e
    have i0 : 0 < i := by have := w.len; simp at this; omega
    have ix : ixO (.ref fN) (.int (-1)) S = some (q.d, S) := by
      rw [ixO_ref _ _ _ _ g, List.map_append, List.map_cons, List.map_nil, L2.atI_last]; rfl
    cases hq : q.isPl with
    | true =>
      simp [eTest, ix, kd_pc, hq, i0]
      exact ⟨h.mono (by omega), .refl⟩
    | false =>
      simp [eTest, ix, kd_pc, hq, i0]
      simpa [hq] using fin (by simp [hq])
theorem turn_ok {a : Int} {S0 S : Store} {sN fN i : Nat} {l : List Pc} {v5 v6 v7 v8 : Option D} (h : Stt a S) (ha : a + 200 < 100000) (hi : i < 8) (w : Wd i l) (gs : S[sN]? = some (.lst (sgns.map .str))) (g : S[fN]? = some (.lst (l.map Pc.d))) (s3 : 3 < sN) (f : Fr S0 S) (l3 : 3 < S0.length) (lf : S0.length ≤ fN) (nf : sN ≠ fN) :
    Ends (eTurn [some (.ref 2), some (.str plains), some (.ref sN), some (.ref fN), some (.int (i : Nat)), v5, v6, v7, v8] S) fun o S' => ∃ v6 v7 v8 l', o = .nx [some (.ref 2), some (.str plains), some (.ref sN), some (.ref fN), some (.int (i : Nat)), v5, v6, v7, v8] ∧
      S'[sN]? = some (.lst (sgns.map .str)) ∧ S'[fN]? = some (.lst (l'.map Pc.d)) ∧ Wd (i + 1) l' ∧ Stt (a + 23) S' ∧ Fr S0 S' := by
  refine cps fun P hP => ?_
  simp only [eTurn]
  simp
  refine (of_ok h (by omega) s3 gs (by decide) (by decide)).thn ?_
  rintro d S1 ⟨hd1, h1, f1⟩
  obtain ⟨s, hs, rfl⟩ := mem_strs hd1
  refine (of_ok (n := S1.length) (xs := fourN.map .str) h1.app (by omega) h1.lt (by simp [fourN]) (by simp [fourN]) (by simp [fourN])).thn ?_
  rintro d S2 ⟨hd2, h2, f2⟩
  obtain ⟨x, hx, rfl⟩ := mem_strs hd2
  have f2' : Fr S1 S2 := Fr.refl.app.trans f2
  have g2 := (f1.trans f2').keep _ _ (by omega) g
  have gs2 := (f1.trans f2').keep _ _ s3 gs
  refine (test_ok h2 (by omega) w g2).thn ?_
  rintro b S3 ⟨hb, h3, f3⟩
  have g3 := f3.keep _ _ (by omega) g2
  have gs3 := f3.keep _ _ s3 gs2
  have f03 : Fr S0 S3 := ((f.trans f1).trans f2').trans f3
  have len := w.len
  cases b with
  | true =>
    simp [ty_list g3]
    rw [append_is g3 (by simp only [List.length_map, lim_is]; omega)]
    simp
    refine hP _ _ ⟨_, _, _, l ++ [.pt x s .nil], rfl, ?_, ?_, ?_, (h3.set (by omega)).mono (by omega), f03.set lf⟩
    · rw [List.getElem?_set_ne (Ne.symm nf)]; exact gs3
    · rw [List.getElem?_set_self (lt_of_get g3)]; simp [Pc.d, Tx.ds]
    · refine w.snoc ?_ (fun _ _ _ => rfl) ?_ ?_
      · simp [Pc.ok, edgeN_ok x (fourN_in x hx), hs, Tx.isNil, Tx.l, Tx.ok]
      · simp [Pc.nms, Tx.nms, fourN_in x hx]
      · simp [Pc.nms, Tx.nms]
  | false =>
    simp [ty_list g3]
    refine (join20 h3 (by omega)).thn ?_
    rintro d S4 ⟨n, y, rfl, g4, yl, yp, h4, f4⟩
    have g4' := f4.keep _ _ (by omega) g3
    have gs4 := f4.keep _ _ s3 gs3
    have yb : ((y.map fun c => [c]).map List.length).sum = y.length := by
      clear g4 yl yp
      induction y with
      | nil => rfl
      | cons c y ih => simp only [List.map_cons, List.sum_cons, List.length_cons, List.length_nil, ih]; omega
    have yf : (y.map fun c => [c]).flatten = y := by
      clear g4 yl yp yb
      induction y with
      | nil => rfl
      | cons c y ih => simp [ih]
    have jn : joinM (.str []) [.ref n] S4 = some (.str y, S4) := by
      rw [join_is g4 (by rw [yb]; simp; omega), joinL_nil, yf]
    have tys : tyD "str" (.str []) S3 = true := rfl
    simp [tys, jn]
    rw [append_is g4' (by simp only [List.length_map, lim_is]; omega)]
    simp
    refine hP _ _ ⟨_, _, _, l ++ [.pl y], rfl, ?_, ?_, ?_, (h4.set (by omega)).mono (by omega), (f03.trans f4).set lf⟩
    · rw [List.getElem?_set_ne (Ne.symm nf)]; exact gs4
    · rw [List.getElem?_set_self (lt_of_get g4')]; simp [Pc.d]
    · refine w.snoc ?_ (fun q e1 e2 => (hb rfl q e1 e2).elim) ?_ ?_
      · simp only [Pc.ok, plainB, Bool.and_eq_true, decide_eq_true_eq, List.all_eq_true]
        exact ⟨⟨by omega, by omega⟩, yp⟩
      · simp [Pc.nms]
      · simp [Pc.nms]
structure Dp (i : Nat) (t : Tx) : Prop where
  ok : t.ok i = true
  len : t.l.length ≤ 8
  nms : ∀ x ∈ t.nms, x ∈ edgeN
  few : t.nms.length ≤ i
theorem deep_ok {a : Int} {S0 S : Store} {sN i : Nat} {t : Tx} {v1 v3 v4 v6 v7 v8 : Option D} (h : Stt a S) (ha : a + 100 < 100000) (w : Dp i t) (gs : S[sN]? = some (.lst (sgns.map .str))) (s3 : 3 < sN) (f : Fr S0 S) :
    Ends (eDeep [some (.ref 2), v1, some (.ref sN), v3, v4, some (.tup t.ds), v6, v7, v8] S) fun o S' => ∃ t', o = .nx [some (.ref 2), v1, some (.ref sN), v3, v4, some (.tup t'.ds), v6, v7, v8] ∧ Dp (i + 1) t' ∧ Stt (a + 2) S' ∧ Fr S S' := by
  simp only [eDeep]
  simp
  refine (of_ok (n := S.length) (xs := twoN.map .str) h.app (by omega) h.lt (by simp [twoN]) (by simp [twoN]) (by simp [twoN])).thn ?_
  rintro d S1 ⟨hd1, h1, f1⟩
  obtain ⟨x, hx, rfl⟩ := mem_strs hd1
  have f1' : Fr S S1 := Fr.refl.app.trans f1
  have gs1 := f1'.keep _ _ s3 gs
  have sl : sliceO (.ref sN) (some 1) none S1 = some (.ref S1.length, S1 ++ [.lst (sgns.tail.map .str)]) := by
    show (lstAt S1 sN).map _ = _
    rw [lstAt_of S1 gs1]; rfl
  simp [sl]
  refine (of_ok (n := S1.length) (xs := sgns.tail.map .str) h1.app (by omega) h1.lt (by simp) (by simp [sgns]) (by simp [sgns])).thn ?_
  rintro d S2 ⟨hd2, h2, f2⟩
  obtain ⟨s, hs, rfl⟩ := mem_strs hd2
  have f2' : Fr S1 S2 := Fr.refl.app.trans f2
  have sne : s ≠ [] := by
    have : ∀ s ∈ sgns.tail, s ≠ [] := by decide
    exact this s hs
  have sin : s ∈ sgns := List.mem_of_mem_tail hs
  simp
  refine ⟨.cons (.pt x s t) (.cons (.pl [58, 45]) .nil), ?_, ⟨?_, ?_, ?_, ?_⟩, h2.mono (by omega), f1'.trans f2'⟩
  · simp [Tx.ds, Pc.d]
  · have p1 : plainB [58, 45] = true := by decide
    have := w.len
    simp [Tx.ok, Pc.ok, Pc.isPl, Tx.hd, edgeN_ok x (twoN_in x hx), sin, sne, w.ok, this, p1]
  · simp [Tx.l]
  · intro y hy
    simp [Tx.nms, Pc.nms] at hy
    rcases hy with rfl | hy
    · exact twoN_in _ hx
    · exact w.nms y hy
  · have := w.few
    simp [Tx.nms, Pc.nms]; omega
theorem edge_ok {a : Int} {S : Store} (h : Stt a S) (ha : a + 1000 < 100000) : Ends (C__law_edge [.ref 2] S) fun d S' => ∃ w t : Tx, d = .tup [.tup w.ds, .tup t.ds] ∧ w.ok4 = true ∧ t.ok4 = true ∧ (∀ x ∈ w.nms, x ∈ edgeN) ∧ (∀ x ∈ t.nms, x ∈ edgeN) ∧ w.nms.length ≤ 8 ∧ t.nms.length ≤ 3 ∧ Stt (a + 190) S' ∧ Fr S S' := by
  have l3 := h.lt
  have sr8 := srcRg_nat (k := 8) (by omega)
  have sr3 := srcRg_nat (k := 3) (by omega)
  simp only [Int.cast_ofNat_Int] at sr8 sr3
  refine cps fun P hP => ?_
  unfold C__law_edge
  rw [B_edge_eq]
  simp only [ev_body, startE]
  simp [sr8]
  refine (for_range (fun i ρ S' => ∃ l v4 v6 v7 v8, ρ = [some (.ref 2), some (.str plains), some (.ref S.length), some (.ref (S.length + 1)), v4, none, v6, v7, v8] ∧ S'[S.length]? = some (.lst (sgns.map .str)) ∧ S'[S.length + 1]? = some (.lst (l.map Pc.d)) ∧ Wd i l ∧ Stt (a + (i : Int) * 23) S' ∧ Fr S S')
      (Q := fun o S' => ∃ l v4 v6 v7 v8, o = .nx [some (.ref 2), some (.str plains), some (.ref S.length), some (.ref (S.length + 1)), v4, none, v6, v7, v8] ∧ S'[S.length]? = some (.lst (sgns.map .str)) ∧ S'[S.length + 1]? = some (.lst (l.map Pc.d)) ∧ Wd 8 l ∧ Stt (a + 184) S' ∧ Fr S S') ?_ ?_ ?_).thn ?_
  · refine ⟨[], none, none, none, none, rfl, by simp [sgns], by simp, ⟨rfl, by simp [Tx.of, Tx.ok], by simp, by simp⟩, by simpa using h.app, Fr.refl.app⟩
  · rintro i ρ S1 hi ⟨l, v4, v6, v7, v8, rfl, gs1, g1, w1, h1, f1⟩
    refine (turn_ok (i := i) (v5 := none) (v6 := v6) (v7 := v7) (v8 := v8) h1 (by omega) hi w1 gs1 g1 l3 f1 l3 (by omega) (by omega)).mono ?_
    rintro o S2 ⟨v6, v7, v8, l', rfl, gs2, g2, w2, h2, f2⟩
    exact ⟨l', _, v6, v7, v8, rfl, gs2, g2, w2, h2.mono (by omega), f2⟩
  · rintro ρ S1 ⟨l, v4, v6, v7, v8, rfl, gs1, g1, w1, h1, f1⟩
    exact ⟨l, v4, v6, v7, v8, rfl, gs1, g1, w1, h1.mono (by omega), f1⟩
  · rintro o S1 ⟨l, v4, v6, v7, v8, rfl, gs1, g1, w1, h1, f1⟩
    simp [sr3]
    refine (for_range (fun i ρ S' => ∃ t v4, ρ = [some (.ref 2), some (.str plains), some (.ref S.length), some (.ref (S.length + 1)), v4, some (.tup t.ds), v6, v7, v8] ∧ Dp i t ∧ Stt (a + 184 + (i : Int) * 2) S' ∧ Fr S1 S')
      (Q := fun o S' => ∃ t v4, o = .nx [some (.ref 2), some (.str plains), some (.ref S.length), some (.ref (S.length + 1)), v4, some (.tup t.ds), v6, v7, v8] ∧ Dp 3 t ∧ Stt (a + 190) S' ∧ Fr S1 S') ?_ ?_ ?_).thn ?_
    · have p1 : plainB [101, 110, 100] = true := by decide
      exact ⟨.cons (.pl [101, 110, 100]) .nil, v4, by simp [Tx.ds, Pc.d], ⟨by simp [Tx.ok, Pc.ok, p1, Tx.hd, Pc.isPl], by simp [Tx.l], by simp [Tx.nms, Pc.nms], by simp [Tx.nms, Pc.nms]⟩, by simpa using h1, .refl⟩
    · rintro i ρ S2 hi ⟨t, v4, rfl, w2, h2, f2⟩
      refine (deep_ok (sN := S.length) (v1 := some (.str plains)) (v3 := some (.ref (S.length + 1))) (v4 := some (.int (i : Nat))) (v6 := v6) (v7 := v7) (v8 := v8) h2 (by omega) w2 (f2.keep _ _ l3 gs1) l3 f2).mono ?_
      rintro o S3 ⟨t', rfl, w3, h3, f3⟩
      exact ⟨t', _, rfl, w3, h3.mono (by omega), f2.trans f3⟩
    · rintro ρ S2 ⟨t, v4, rfl, w2, h2, f2⟩
      exact ⟨t, v4, rfl, w2, h2.mono (by omega), f2⟩
    · rintro o S2 ⟨t, v4, rfl, w2, h2, f2⟩
      have g2 := f2.keep _ _ (by omega) g1
      simp [tuple_is g2]
      have wl : (Tx.of l).l.length ≤ 8 := by rw [Tx.l_of]; exact Nat.le_of_eq w1.len
      refine hP _ _ ⟨Tx.of l, t, ?_, ok4_of wl w1.ok (by omega), ok4_of w2.len w2.ok (by omega), ?_, w2.nms, ?_, w2.few, h2, f1.trans f2⟩
      · rw [Tx.ds_eq (Tx.of l), Tx.l_of]
      · intro x hx
        rw [Tx.nms_eq, Tx.l_of] at hx
        obtain ⟨y, hy, hx⟩ := List.mem_flatten.mp hx
        obtain ⟨p, hp, rfl⟩ := List.mem_map.mp hy
        exact w1.nms p hp x hx
      · rw [Tx.nms_eq, Tx.l_of]
        have e : ∀ (l : List Pc), (∀ p ∈ l, p.nms.length ≤ 1) → ((l.map Pc.nms).flatten).length ≤ l.length := by
          intro l
          induction l with
          | nil => intro _; simp
          | cons p l ih =>
            intro h
            have h1 := h p (List.mem_cons_self ..)
            have h2 := ih fun q hq => h q (List.mem_cons_of_mem _ hq)
            simp only [List.map_cons, List.flatten_cons, List.length_append, List.length_cons]
            omega
        have := e l w1.few
        have := w1.len
        omega
end LK06

set_option Elab.async false
set_option linter.all false
set_option maxRecDepth 100000
set_option maxHeartbeats 1000000
namespace LK06
open Al
open PySem (PyData Str)
/-! ### what is shown -/
def Sh (k b : Nat) (p : PyData) : Prop := p.showable = true ∧ p.canLay0 = true ∧ p.depth ≤ k ∧ p.shown.length ≤ b
def ShA (k b : Nat) (ps : List PyData) : Prop := PyData.showableAll ps = true ∧ PyData.canLayAll0 ps = true ∧ PyData.depthAll ps ≤ k ∧ ((PyData.shownAll ps).map (·.length)).sum + ps.length * 2 ≤ b
theorem ShA.nil {k b : Nat} : ShA k b [] := ⟨by simp only [PyData.showableAll], by simp only [PyData.canLayAll0], by simp only [PyData.depthAll]; omega, by simp [PyData.shownAll]⟩
theorem ShA.cons {k b c : Nat} {p : PyData} {ps : List PyData} (h : Sh k b p) (hs : ShA k c ps) : ShA k (b + 2 + c) (p :: ps) := by
  obtain ⟨a1, a2, a3, a4⟩ := h
  obtain ⟨b1, b2, b3, b4⟩ := hs
  refine ⟨by simp only [PyData.showableAll, a1, b1, Bool.and_self], by simp only [PyData.canLayAll0, a2, b2, Bool.and_self], by simp only [PyData.depthAll]; omega, ?_⟩
  simp only [PyData.shownAll, List.map_cons, List.sum_cons, List.length_cons]
  omega
theorem Sh.tup {k b : Nat} {ps : List PyData} (h : ShA k b ps) : Sh (k + 1) (b + 3) (.tuple ps) := by
  obtain ⟨b1, b2, b3, b4⟩ := h
  refine ⟨by simp only [PyData.showable, b1], by simp only [PyData.canLay0, b2], by simp only [PyData.depth]; omega, ?_⟩
  rw [PyData.shown_tuple, Str.length_append, Str.length_append]
  have j := PySem.StrLaws.join_length_le ", " (PyData.shownAll ps)
  rw [PyData.shownAll_length] at j
  have l0 : (", " : Str).length = 2 := by decide +kernel
  have l1 : ("(" : Str).length = 1 := by decide +kernel
  have l2 : ((if (ps.length == 1) = true then ",)" else ")" : String) : Str).length ≤ 2 := by
    by_cases e : (ps.length == 1) = true
    · rw [if_pos e]; decide +kernel
    · rw [if_neg e]; decide +kernel
  rw [l0] at j
  omega
theorem Sh.mono {k b k' b' : Nat} {p : PyData} (h : Sh k b p) (hk : k ≤ k') (hb : b ≤ b') : Sh k' b' p := ⟨h.1, h.2.1, Nat.le_trans h.2.2.1 hk, Nat.le_trans h.2.2.2 hb⟩
theorem ShA.mono {k b k' b' : Nat} {p : List PyData} (h : ShA k b p) (hk : k ≤ k') (hb : b ≤ b') : ShA k' b' p := ⟨h.1, h.2.1, Nat.le_trans h.2.2.1 hk, Nat.le_trans h.2.2.2 hb⟩
def nice : List Nat := caps ++ (plains ++ [43, 63])
theorem nice_repr : ∀ c ∈ nice, (PySem.Builtin.Str.reprChar 39 c).length ≤ 1 ∧ c ≠ 39 ∧ c < 1114112 := by decide +kernel
theorem foldl_nice (l : List Nat) (acc : Array Nat) (h : ∀ c ∈ l, c ∈ nice) : (l.foldl (fun out c => out ++ (PySem.Builtin.Str.reprChar 39 c).toArray) acc).size ≤ acc.size + l.length := by
  induction l generalizing acc with
  | nil => simp
  | cons c r ih =>
    have i := ih (acc ++ (PySem.Builtin.Str.reprChar 39 c).toArray) fun d hd => h d (List.mem_cons_of_mem _ hd)
    have hc := (nice_repr c (h c (List.mem_cons_self ..))).1
    simp only [List.foldl_cons, List.length_cons]
    simp only [Array.size_append, List.size_toArray] at i
    omega
theorem shown_nice {x : List Nat} (h : ∀ c ∈ x, c ∈ nice) : (PySem.reprText (toS x)).length ≤ x.length + 2 := by
  have q : PySem.reprQuote (toS x) = 39 := by
    unfold PySem.reprQuote
    have : (toS x).cps.contains 39 = false := by
      simp
      intro hx
      exact (nice_repr 39 (h 39 hx)).2.1 rfl
    rw [this]
    rfl
  unfold PySem.reprText
  rw [q]
  show (((toS x).cps.foldl (fun out c => out ++ (PySem.Builtin.Str.reprChar 39 c).toArray) #[39]).push 39).size ≤ _
  rw [Array.size_push, ← Array.foldl_toList]
  have := foldl_nice x #[39] h
  have e1 : (#[39] : Array Nat).size = 1 := rfl
  show (List.foldl (fun out c => out ++ (PySem.Builtin.Str.reprChar 39 c).toArray) #[39] x).size + 1 ≤ _
  omega
theorem strs_nice {x : List Nat} (h : ∀ c ∈ x, c ∈ nice) : strsOk x = true := by
  unfold strsOk
  rw [List.all_eq_true]
  intro c hc
  simp
  exact (nice_repr c (h c hc)).2.2
theorem Sh.str {x : List Nat} (h : ∀ c ∈ x, c ∈ nice) : Sh 0 (x.length + 2) (.str (toS x)) := by
  refine ⟨by simp only [PyData.showable], ?_, by simp only [PyData.depth]; omega, by rw [PyData.shown_str]; exact shown_nice h⟩
  have := strs_nice h
  simp only [PyData.canLay0]
  unfold strsOk at this
  unfold PySem.PyData.strOk
  simpa using this
theorem toP_str {n : Nat} {x : List Nat} {S : Store} (h : ∀ c ∈ x, c ∈ nice) : toP (n + 1) S (.str x) = some (.str (toS x)) := by
  show (if strsOk x = true then some (PyData.str (toS x)) else none) = _
  rw [if_pos (strs_nice h)]
theorem toP_tup {n : Nat} {ds : List D} {ps : List PyData} {S : Store} (h : mapO (toP n S) ds = some ps) : toP (n + 1) S (.tup ds) = some (.tuple ps) := by
  show (mapO (toP n S) ds).map PyData.tuple = _
  rw [h]; rfl
theorem mapO_cons {α β : Type} {f : α → Option β} {x : α} {xs : List α} {y : β} {ys : List β} (h : f x = some y) (hs : mapO f xs = some ys) : mapO f (x :: xs) = some (y :: ys) := by
  simp only [mapO, h, hs]
theorem name_nice {n : List Nat} (h : nameB n = true) : ∀ c ∈ n, c ∈ nice := by
  intro c hc
  simp only [nameB, Bool.and_eq_true, List.all_eq_true, decide_eq_true_eq] at h
  have := h.2 c hc
  unfold nice
  rcases List.mem_append.mp this with e | e
  · exact List.mem_append_left _ e
  · simp at e; subst e; decide
theorem plain_nice {n : List Nat} (h : plainB n = true) : ∀ c ∈ n, c ∈ nice := by
  intro c hc
  simp only [plainB, Bool.and_eq_true, List.all_eq_true, decide_eq_true_eq] at h
  exact List.mem_append_right _ (List.mem_append_left _ (h.2 c hc))
theorem sgn_nice {s : List Nat} (h : s ∈ sgns) : ∀ c ∈ s, c ∈ nice := by
  have : ∀ s ∈ sgns, ∀ c ∈ s, c ∈ nice := by decide
  exact this s h
def sb : Nat → Nat
  | 0 => 30
  | M + 1 => 46 + 8 * sb M
theorem sb_ge : ∀ M, 30 ≤ sb M
  | 0 => by decide
  | M + 1 => by have := sb_ge M; simp only [sb]; omega
mutual
theorem Pc.sh : ∀ (p : Pc) (M n : Nat), p.ok M = true → 2 * M + 4 ≤ n → ∃ q, (∀ S, toP n S p.d = some q) ∧ Sh (2 * M + 2) (sb M) q
  | .pl x, M, n, h, hn => by
    obtain ⟨n, rfl⟩ : ∃ m, n = m + 1 := ⟨n - 1, by omega⟩
    have h : plainB x = true := by simpa [Pc.ok] using h
    have hx := plain_nice h
    have l : x.length ≤ 20 := by simp only [plainB, Bool.and_eq_true, decide_eq_true_eq] at h; exact h.1.2
    have := sb_ge M
    exact ⟨_, fun S => toP_str hx, (Sh.str hx).mono (by omega) (by omega)⟩
  | .pt nm s t, M, n, h, hn => by
    obtain ⟨n, rfl⟩ : ∃ m, n = m + 3 := ⟨n - 3, by omega⟩
    simp only [Pc.ok, Bool.and_eq_true, decide_eq_true_eq] at h
    obtain ⟨⟨h1, h2⟩, h3⟩ := h
    have x1 := name_nice h1
    have x2 := sgn_nice h2
    have y1 := name_len h1
    have y2 := sgn_len h2
    obtain ⟨qs, e, a⟩ : ∃ qs, (∀ S, mapO (toP (n + 1) S) t.ds = some qs) ∧ ShA (2 * M) (sb M - 26) qs := by
      by_cases e : s = []
      · rw [if_pos e] at h3
        cases t with
        | nil => exact ⟨[], fun S => by simp [Tx.ds, mapO], ShA.nil⟩
        | cons p t => simp [Tx.isNil] at h3
      · rw [if_neg e] at h3
        simp only [Bool.and_eq_true, decide_eq_true_eq] at h3
        obtain ⟨⟨m0, tl⟩, tok⟩ := h3
        obtain ⟨qs, e1, e2⟩ := Tx.sh t (M - 1) (n + 1) tok (by omega)
        obtain ⟨M, rfl⟩ : ∃ m, M = m + 1 := ⟨M - 1, by omega⟩
        refine ⟨qs, e1, e2.mono (by omega) ?_⟩
        have := Nat.mul_le_mul_right (sb M + 2) tl
        simp only [Nat.add_sub_cancel, sb]
        omega
    have b := sb_ge M
    refine ⟨.tuple [.str (toS nm), .str (toS s), .tuple qs], fun S => ?_, ?_⟩
    · show toP (n + 3) S (.tup [.str nm, .str s, .tup t.ds]) = _
      exact toP_tup (mapO_cons (toP_str x1) (mapO_cons (toP_str x2) (mapO_cons (toP_tup (e S)) rfl)))
    · have z := Sh.tup (((Sh.str x1).mono (Nat.zero_le (2 * M + 1)) (Nat.le_refl _)) |> fun u => ShA.cons u (ShA.cons ((Sh.str x2).mono (Nat.zero_le (2 * M + 1)) (Nat.le_refl _)) (ShA.cons (Sh.tup a) (ShA.nil (b := 0)))))
      exact z.mono (by omega) (by omega)
theorem Tx.sh : ∀ (t : Tx) (M n : Nat), t.ok M = true → 2 * M + 4 ≤ n → ∃ qs, (∀ S, mapO (toP n S) t.ds = some qs) ∧ ShA (2 * M + 2) (t.l.length * (sb M + 2)) qs
  | .nil, M, n, h, hn => ⟨[], fun S => by simp [Tx.ds, mapO], ShA.nil⟩
  | .cons p t, M, n, h, hn => by
    simp only [Tx.ok, Bool.and_eq_true] at h
    obtain ⟨q, e1, a1⟩ := Pc.sh p M n h.1.1 hn
    obtain ⟨qs, e2, a2⟩ := Tx.sh t M n h.2 hn
    refine ⟨q :: qs, fun S => ?_, (ShA.cons a1 a2).mono (Nat.le_refl _) ?_⟩
    · show mapO (toP n S) (p.d :: t.ds) = _
      exact mapO_cons (e1 S) (e2 S)
    · simp only [Tx.l, List.length_cons, Nat.succ_mul]; omega
end
theorem text_sh {t : Tx} {n : Nat} (h : t.ok4 = true) (hn : 11 ≤ n) : ∃ q, (∀ S, toP n S (.tup t.ds) = some q) ∧ Sh 9 150000 q := by
  simp only [Tx.ok4, Bool.and_eq_true, decide_eq_true_eq] at h
  obtain ⟨n, rfl⟩ : ∃ m, n = m + 1 := ⟨n - 1, by omega⟩
  obtain ⟨qs, e, a⟩ := Tx.sh t 3 n h.2 (by omega)
  refine ⟨.tuple qs, fun S => toP_tup (e S), (Sh.tup a).mono (by omega) ?_⟩
  have := Nat.mul_le_mul_right (sb 3 + 2) h.1
  have e3 : sb 3 = 18718 := rfl
  rw [e3] at this ⊢
  omega
theorem row_sh {r : Rw} {n : Nat} (h : r.ok = true) (hn : 12 ≤ n) : ∃ q, (∀ S, toP n S r.d = some q) ∧ Sh 10 200000 q := by
  obtain ⟨n, rfl⟩ : ∃ m, n = m + 2 := ⟨n - 2, by omega⟩
  have w1 : ∀ c ∈ ([115, 101, 116] : List Nat), c ∈ nice := by decide
  have w2 : ∀ c ∈ ([103, 105, 118, 101] : List Nat), c ∈ nice := by decide
  have w3 : ∀ c ∈ ([100, 114, 111, 112] : List Nat), c ∈ nice := by decide
  have w4 : ∀ c ∈ ([99, 104, 101, 99, 107] : List Nat), c ∈ nice := by decide
  cases r with
  | set x t =>
    simp only [Rw.ok, Bool.and_eq_true] at h
    obtain ⟨q, e, a⟩ := text_sh (n := n + 1) h.2 (by omega)
    have xl := name_len h.1
    refine ⟨_, fun S => toP_tup (mapO_cons (toP_str w1) (mapO_cons (toP_str (name_nice h.1)) (mapO_cons (e S) rfl))), ?_⟩
    exact (Sh.tup (ShA.cons ((Sh.str w1).mono (Nat.zero_le 9) (Nat.le_refl _)) (ShA.cons ((Sh.str (name_nice h.1)).mono (Nat.zero_le 9) (Nat.le_refl _)) (ShA.cons a (ShA.nil (b := 0)))))).mono (by omega) (by simp only [List.length_cons, List.length_nil]; omega)
  | give x t =>
    simp only [Rw.ok, Bool.and_eq_true] at h
    obtain ⟨q, e, a⟩ := text_sh (n := n + 1) h.2 (by omega)
    have xl := name_len h.1
    refine ⟨_, fun S => toP_tup (mapO_cons (toP_str w2) (mapO_cons (toP_str (name_nice h.1)) (mapO_cons (e S) rfl))), ?_⟩
    exact (Sh.tup (ShA.cons ((Sh.str w2).mono (Nat.zero_le 9) (Nat.le_refl _)) (ShA.cons ((Sh.str (name_nice h.1)).mono (Nat.zero_le 9) (Nat.le_refl _)) (ShA.cons a (ShA.nil (b := 0)))))).mono (by omega) (by simp only [List.length_cons, List.length_nil]; omega)
  | drop x =>
    have h : nameB x = true := h
    have xl := name_len h
    refine ⟨_, fun S => toP_tup (mapO_cons (toP_str w3) (mapO_cons (toP_str (name_nice h)) rfl)), ?_⟩
    exact (Sh.tup (ShA.cons ((Sh.str w3).mono (Nat.zero_le 9) (Nat.le_refl _)) (ShA.cons ((Sh.str (name_nice h)).mono (Nat.zero_le 9) (Nat.le_refl _)) (ShA.nil (b := 0))))).mono (by omega) (by simp only [List.length_cons, List.length_nil]; omega)
  | check t =>
    have h : t.ok4 = true := h
    obtain ⟨q, e, a⟩ := text_sh (n := n + 1) h (by omega)
    refine ⟨_, fun S => toP_tup (mapO_cons (toP_str w4) (mapO_cons (e S) rfl)), ?_⟩
    exact (Sh.tup (ShA.cons ((Sh.str w4).mono (Nat.zero_le 9) (Nat.le_refl _)) (ShA.cons a (ShA.nil (b := 0))))).mono (by omega) (by simp only [List.length_cons, List.length_nil]; omega)
theorem rows_sh : ∀ (rows : List Rw), (∀ r ∈ rows, r.ok = true) → ∃ qs, (∀ S, mapO (toP 59 S) (rows.map Rw.d) = some qs) ∧ ShA 10 (rows.length * 200002) qs
  | [], _ => ⟨[], fun S => rfl, ShA.nil⟩
  | r :: rows, h => by
    obtain ⟨q, e1, a1⟩ := row_sh (n := 59) (h r (List.mem_cons_self ..)) (by omega)
    obtain ⟨qs, e2, a2⟩ := rows_sh rows fun q hq => h q (List.mem_cons_of_mem _ hq)
    refine ⟨q :: qs, fun S => mapO_cons (e1 S) (e2 S), (ShA.cons a1 a2).mono (Nat.le_refl _) ?_⟩
    simp only [List.length_cons, Nat.succ_mul]; omega
theorem file_sh {rows : List Rw} (h : FileOk rows) : ∃ q, (∀ S, toP 60 S (.tup (rows.map Rw.d)) = some q) ∧ Sh 11 8100000 q := by
  obtain ⟨qs, e, a⟩ := rows_sh rows h.ok
  refine ⟨.tuple qs, fun S => toP_tup (e S), (Sh.tup a).mono (by omega) ?_⟩
  have hl := h.len
  clear e a h
  omega
theorem repr_is {d : D} {q : PyData} {k b : Nat} {S : Store} (h : toP 60 S d = some q) (a : Sh k b q) (hk : k ≤ 60) (hb : b ≤ 16777216) : reprF [d] S = some (.str q.shown.cps.toList, S) := by
  show (match toP 60 S d with | some p => (shownD p).map fun x => (D.str x, S) | none => none) = _
  rw [h]
  show (shownD q).map _ = _
  have e : shownD q = some q.shown.cps.toList := by
    unfold shownD
    have h1 : q.shown.length ≤ lim := by have := a.2.2.2; simp only [lim_is]; omega
    have h2 : q.depth ≤ 60 := by have := a.2.2.1; omega
    rw [if_pos (by simp [a.1, h1, h2])]
  rw [e]; rfl
/-! ### written and read -/
theorem text_right_ok {t : Tx} {S : Store} (h : t.ok4 = true) : Ends (C__law_text_right [.tup t.ds] S) fun d S' => d = .bl true ∧ S <+: S' := by
  simp only [C__law_text_right, B__law_text_right, ev_body, startE]
  simp
  refine (law_written4 h).thn ?_
  rintro d S1 ⟨rfl, rfl⟩
  refine (text_of_ok h).thn ?_
  rintro d S2 ⟨rfl, x2⟩
  simp
  refine (read_text_ok h).thn ?_
  rintro d S3 ⟨rfl, x3⟩
  obtain ⟨q, e, a⟩ := text_sh (n := 60) h (by omega)
  simp [repr_is (e S3) a (by omega) (by omega)]
  exact x2.trans x3
theorem file_right_ok {rows : List Rw} {S : Store} (h : FileOk rows) : Ends (C__law_file_right [.tup (rows.map Rw.d)] S) fun d S' => d = .bl true ∧ S <+: S' := by
  have tys : ∀ S, tyD "str" (.str [10]) S = true := fun S => rfl
  simp only [C__law_file_right, B__law_file_right, ev_body, startE]
  simp [tys, wipeE]
  have lc := lc_tup rows Rw.d (v := 2) (el := eCallD C__law_row_written (aCons (eVar 2) aNil)) (ρ := [some (.tup (rows.map Rw.d)), none, none]) (S := S) (fun r => D.str r.wr) (by have := h.len; simp only [lim_is]; omega) (by
    intro r hr S'
    simp
    refine (law_row_written_ok (h.ok r hr)).mono ?_
    rintro d S2 ⟨rfl, rfl⟩
    exact ⟨rfl, List.prefix_refl _⟩)
  refine lc.thn ?_
  rintro d S1 ⟨rfl, at1⟩
  have g := at1.get
  rw [show (rows.map fun r => D.str r.wr) = (rows.map Rw.wr).map D.str by simp] at g
  rw [join_is g (fwr_bound h)]
  simp
  refine (file_text_ok h).thn ?_
  rintro d S2 ⟨rfl, x2⟩
  simp [fwr]
  refine (read_file_ok h).thn ?_
  rintro d S3 ⟨rfl, x3⟩
  obtain ⟨q, e, a⟩ := file_sh h
  simp [repr_is (e S3) a (by omega) (by omega)]
  exact (at1.pre.trans x2).trans x3
end LK06

set_option Elab.async false
set_option linter.all false
set_option maxRecDepth 100000
set_option maxHeartbeats 1000000
namespace LK06
open Al
open PySem (PyData Str)
def lT : SF := sIf (tNotF (tOf (eCallD C__law_text_right (aCons (eVar 7) aNil)))) (sRet (eC (.bl false))) sNx
def lF : SF := sIf (tNotF (tOf (eCallD C__law_file_right (aCons (eVar 4) aNil)))) (sRet (eC (.bl false))) sNx
def lTurn : SF := sSeq (sSet 5 (eCallD C__law_names (aCons (eVar 1) (aCons (eOp addO (eC (.int 1)) (eCallD C__law_draw (aCons (eVar 1) (aCons (eC (.int 6)) aNil)))) aNil))))
    (sSeq (sSet 6 (eCallD C__law_file (aCons (eVar 1) (aCons (eVar 5) (aCons (eOp ixO (eLst (aCons (eC (.int 40)) (aCons (eC (.int 6)) aNil))) (eCallD C__law_draw (aCons (eVar 1) (aCons (eC (.int 2)) aNil)))) aNil)))))
    (sSeq (sAsg (.tp [9, 10]) (eCallD C__law_edge (aCons (eVar 1) aNil)))
    (sSeq (sFor (iVal (eTup (aCons (eVar 9) (aCons (eVar 10) (aCons (eCallD (C__law_text 8) (aCons (eVar 1) (aCons (eVar 5) (aCons (eC (.int 3)) aNil)))) (aCons (eTup aNil) aNil)))))) (.nm 7) lT)
    (sSeq (sSet 8 (eTup (aCons (eTup (aCons (eC (.str [115, 101, 116])) (aCons (eC (.str [65])) (aCons (eVar 9) aNil)))) (aCons (eTup (aCons (eC (.str [103, 105, 118, 101])) (aCons (eC (.str [66])) (aCons (eVar 10) aNil)))) aNil))))
    (sSeq (sFor (iVal (eTup (aCons (eVar 6) (aCons (eVar 8) (aCons (eTup (aCons (eTup (aCons (eC (.str [99, 104, 101, 99, 107])) (aCons (eVar 10) aNil))) (aCons (eTup (aCons (eC (.str [100, 114, 111, 112])) (aCons (eC (.str [88, 95, 89])) aNil))) (aCons (eTup (aCons (eC (.str [99, 104, 101, 99, 107])) (aCons (eTup aNil) aNil))) aNil)))) aNil))))) (.nm 4) lF)
    (sSeq (sIf (tAndF (tOf (eOp neO (eVar 2) (eVar 6))) (tOf (eOp eqO (eCallD C_file_text (aCons (eVar 2) aNil)) (eCallD C_file_text (aCons (eVar 6) aNil))))) (sRet (eC (.bl false))) sNx)
    (sSet 2 (eVar 6))))))))
def lEnd : SF := sSeq (sSet 4 (eTup (aCons (eTup (aCons (eC (.str [115, 101, 116])) (aCons (eC (.str [66])) (aCons (eTup (aCons (eTup (aCons (eC (.str [65])) (aCons (eC (.str [58, 45])) (aCons (eTup (aCons (eC (.str [120])) aNil)) aNil)))) (aCons (eC (.str [47])) aNil))) aNil)))) (aCons (eTup (aCons (eC (.str [103, 105, 118, 101])) (aCons (eC (.str [65])) (aCons (eTup aNil) aNil)))) (aCons (eTup (aCons (eC (.str [100, 114, 111, 112])) (aCons (eC (.str [65])) aNil))) (aCons (eTup (aCons (eC (.str [99, 104, 101, 99, 107])) (aCons (eTup (aCons (eC (.str [97, 61, 98])) aNil)) aNil))) aNil))))))
    (sSeq (sIf (tOrF (tOf (eOp neO (eCallD C_file_text (aCons (eVar 4) aNil)) (eOp addO (eC (.str [66, 61, 36])) (eC (.str [123, 65, 58, 45, 120, 125, 47, 10, 65, 63, 61, 10, 100, 114, 111, 112, 32, 65, 10, 99, 104, 101, 99, 107, 32, 97, 61, 98]))))) (tOrF (tOf (eOp neO (eCallD C_file_text (aCons (eTup aNil) aNil)) (eC (.str [])))) (tOf (eOp neO (eCallD C_text_of (aCons (eTup aNil) aNil)) (eC (.str [])))))) (sRet (eC (.bl false))) sNx)
    (sRet (eAnd (eOp eqO (eCallD C_read_file (aCons (eC (.str [])) aNil)) (eTup aNil)) (eAnd (eOp eqO (eCallD C_read_text (aCons (eC (.str [])) aNil)) (eTup aNil)) (eOp eqO (eCallD C_read_file (aCons (eC (.str [65, 61, 120, 61, 121])) aNil)) (eTup (aCons (eTup (aCons (eC (.str [115, 101, 116])) (aCons (eC (.str [65])) (aCons (eTup (aCons (eC (.str [120, 61, 121])) aNil)) aNil)))) aNil)))))))
theorem B_law_eq : B_law = sSeq (sSet 1 (eCallD C__law_begin (aCons (eVar 0) aNil)))
    (sSeq (sSet 2 (eTup (aCons (eTup (aCons (eC (.str [115, 101, 116])) (aCons (eC (.str [76, 65, 83, 84])) (aCons (eTup (aCons (eC (.str [120])) aNil)) aNil)))) aNil)))
    (sSeq (sFor (iRange (aCons (eOp addO (eC (.int 3)) (eCall minF (aCons (eC (.int 4)) (aCons (eCall lenF (aCons (eVar 0) aNil)) aNil)))) aNil)) (.nm 3) lTurn) lEnd)) := rfl
theorem texts_loop {a0 a1 a2 a3 a4 a5 a6 a7 a8 a9 a10 : Option D} {S : Store} (ts : List Tx) (h : ∀ t ∈ ts, t.ok4 = true) :
    Ends (forF (fun i _ => nxL (ts.map fun t => D.tup t.ds) i) (.nm 7) lT (ts.length + 1) 0 [a0, a1, a2, a3, a4, a5, a6, a7, a8, a9, a10] S) fun o S' => ∃ v, o = .nx [a0, a1, a2, a3, a4, a5, a6, v, a8, a9, a10] ∧ S <+: S' := by
  refine for_tup ts (fun t => D.tup t.ds) (fun i ρ S' => ∃ v, ρ = [a0, a1, a2, a3, a4, a5, a6, v, a8, a9, a10] ∧ S <+: S') ⟨a7, rfl, List.prefix_refl _⟩ ?_ ?_
  · rintro i t ρ S1 ht ⟨v, rfl, x1⟩
    simp [lT]
    refine (text_right_ok (h t (List.mem_of_getElem? ht))).thn ?_
    rintro d S2 ⟨rfl, x2⟩
    simpa using x1.trans x2
  · rintro ρ S1 ⟨v, rfl, x1⟩
    exact ⟨v, rfl, x1⟩
theorem files_loop {a0 a1 a2 a3 a4 a5 a6 a7 a8 a9 a10 : Option D} {S : Store} (ts : List (List Rw)) (h : ∀ t ∈ ts, FileOk t) :
    Ends (forF (fun i _ => nxL (ts.map fun t => D.tup (t.map Rw.d)) i) (.nm 4) lF (ts.length + 1) 0 [a0, a1, a2, a3, a4, a5, a6, a7, a8, a9, a10] S) fun o S' => ∃ v, o = .nx [a0, a1, a2, a3, v, a5, a6, a7, a8, a9, a10] ∧ S <+: S' := by
  refine for_tup ts (fun t => D.tup (t.map Rw.d)) (fun i ρ S' => ∃ v, ρ = [a0, a1, a2, a3, v, a5, a6, a7, a8, a9, a10] ∧ S <+: S') ⟨a4, rfl, List.prefix_refl _⟩ ?_ ?_
  · rintro i t ρ S1 ht ⟨v, rfl, x1⟩
    simp [lF]
    refine (file_right_ok (h t (List.mem_of_getElem? ht))).thn ?_
    rintro d S2 ⟨rfl, x2⟩
    simpa using x1.trans x2
  · rintro ρ S1 ⟨v, rfl, x1⟩
    exact ⟨v, rfl, x1⟩
theorem ne_tup (ds es : List D) (S : Store) {p q : PyData} (h1 : toP 60 S (.tup ds) = some p) (h2 : toP 60 S (.tup es) = some q) : neO (.tup ds) (.tup es) S = some (.bl (!PyData.eqv p q), S) := by
  show (match toP 60 S (.tup ds), toP 60 S (.tup es) with | some p, some q => some (D.bl (!PyData.eqv p q), S) | _, _ => none) = _
  rw [h1, h2]
theorem eq_tup (ds es : List D) (S : Store) {p q : PyData} (h1 : toP 60 S (.tup ds) = some p) (h2 : toP 60 S (.tup es) = some q) : eqO (.tup ds) (.tup es) S = some (.bl (PyData.eqv p q), S) := by
  show (match toP 60 S (.tup ds), toP 60 S (.tup es) with | some p, some q => some (D.bl (PyData.eqv p q), S) | _, _ => none) = _
  rw [h1, h2]
theorem eq_same {ds : List D} {S : Store} {p : PyData} {k b : Nat} (h : toP 60 S (.tup ds) = some p) (a : Sh k b p) : eqO (.tup ds) (.tup ds) S = some (.bl true, S) := by
  rw [eq_tup ds ds S h h, PySem.SeqAt.eqv_refl p a.2.1]
theorem last_ne {last rows : List Rw} (h1 : FileOk last) (h2 : FileOk rows) (S : Store) : ∃ b, neO (.tup (last.map Rw.d)) (.tup (rows.map Rw.d)) S = some (.bl b, S) ∧ (b = true → (fwr last == fwr rows) = false) := by
  obtain ⟨p, e1, a1⟩ := file_sh h1
  obtain ⟨q, e2, a2⟩ := file_sh h2
  refine ⟨_, ne_tup _ _ S (e1 S) (e2 S), fun hb => ?_⟩
  cases hf : (fwr last == fwr rows) with
  | false => rfl
  | true =>
    exfalso
    have hf : fwr last = fwr rows := by simpa using hf
    obtain ⟨d1, S1, r1, z1, _⟩ := (read_file_ok (S := []) h1).ex
    obtain ⟨d2, S2, r2, z2, _⟩ := (read_file_ok (S := []) h2).ex
    rw [hf, r2] at r1
    simp only [Res.ok.injEq] at r1
    have : D.tup (last.map Rw.d) = D.tup (rows.map Rw.d) := by rw [← z1, ← z2, r1.1]
    have e3 := e1 S
    rw [this, e2 S] at e3
    have : q = p := by simpa using e3
    subst this
    rw [PySem.SeqAt.eqv_refl q a2.2.1] at hb
    simp at hb
theorem more_ok {w t : Tx} (hw : w.ok4 = true) (ht : t.ok4 = true) (nw : ∀ x ∈ w.nms, x ∈ edgeN) (nt : ∀ x ∈ t.nms, x ∈ edgeN) (lw : w.nms.length ≤ 8) (lt : t.nms.length ≤ 3) : FileOk [.set [65] w, .give [66] t] := by
  have n1 : nameB [65] = true := by decide
  have n2 : nameB [66] = true := by decide
  refine file_of (m := [66] :: edgeN) (by simp) ?_ ?_ ?_ ?_ (by decide)
  · intro r hr
    simp at hr
    rcases hr with rfl | rfl <;> simp [Rw.ok, n1, n2, hw, ht]
  · intro r hr
    simp at hr
    rcases hr with rfl | rfl <;> simp only [Rw.txt] <;> omega
  · intro r hr x hx
    simp at hr
    rcases hr with rfl | rfl <;> simp [Rw.own] at hx <;> subst hx <;> decide
  · intro r hr x hx
    simp at hr
    rcases hr with rfl | rfl
    · exact List.mem_cons_of_mem _ (nw x hx)
    · exact List.mem_cons_of_mem _ (nt x hx)
theorem third_ok {t : Tx} (ht : t.ok4 = true) (nt : ∀ x ∈ t.nms, x ∈ edgeN) (lt : t.nms.length ≤ 3) : FileOk [.check t, .drop [88, 95, 89], .check .nil] := by
  have n1 : nameB [88, 95, 89] = true := by decide
  have n2 : Tx.nil.ok4 = true := by simp [Tx.ok4, Tx.l, Tx.ok]
  refine file_of (m := [88, 95, 89] :: edgeN) (by simp) ?_ ?_ ?_ ?_ (by decide)
  · intro r hr
    simp at hr
    rcases hr with rfl | rfl | rfl <;> simp [Rw.ok, n1, n2, ht]
  · intro r hr
    simp at hr
    rcases hr with rfl | rfl | rfl <;> simp only [Rw.txt]
    · omega
    · simp [Tx.nms]
    · simp [Tx.nms]
  · intro r hr x hx
    simp at hr
    rcases hr with rfl | rfl | rfl <;> simp [Rw.own] at hx
    subst hx
    decide
  · intro r hr x hx
    simp at hr
    rcases hr with rfl | rfl | rfl
    · exact List.mem_cons_of_mem _ (nt x hx)
    · simp [Rw.txt, Tx.nms] at hx
    · simp [Rw.txt, Tx.nms] at hx
def gF : List Rw := [.set [66] (.cons (.pt [65] [58, 45] (.cons (.pl [120]) .nil)) (.cons (.pl [47]) .nil)), .give [65] .nil, .drop [65], .check (.cons (.pl [97, 61, 98]) .nil)]
theorem gF_ok : FileOk gF := ⟨by decide +kernel, by decide +kernel, by decide +kernel, by decide +kernel⟩
theorem gF_wr : fwr gF = [66, 61, 36, 123, 65, 58, 45, 120, 125, 47, 10, 65, 63, 61, 10, 100, 114, 111, 112, 32, 65, 10, 99, 104, 101, 99, 107, 32, 97, 61, 98] := by decide +kernel
def gL : List Rw := [.set [76, 65, 83, 84] (.cons (.pl [120]) .nil)]
theorem gL_ok : FileOk gL := ⟨by decide +kernel, by decide +kernel, by decide +kernel, by decide +kernel⟩
def gX : List Rw := [.set [65] (.cons (.pl [120, 61, 121]) .nil)]
theorem gX_ok : FileOk gX := ⟨by decide +kernel, by decide +kernel, by decide +kernel, by decide +kernel⟩
theorem gX_wr : fwr gX = [65, 61, 120, 61, 121] := by decide +kernel
theorem gN_ok : FileOk [] := ⟨by decide +kernel, by decide +kernel, by decide +kernel, by decide +kernel⟩
theorem gN_wr : fwr [] = [] := rfl
theorem gT_ok : Tx.nil.ok4 = true := by decide +kernel
theorem end_ok {ρ : Env} {S : Store} (hl : ρ.length = 11) : Ends (lEnd ρ S) fun o _ => o = .ret (.bl true) := by
  have dF : D.tup (gF.map Rw.d) = .tup [.tup [.str [115, 101, 116], .str [66], .tup [.tup [.str [65], .str [58, 45], .tup [.str [120]]], .str [47]]], .tup [.str [103, 105, 118, 101], .str [65], .tup []], .tup [.str [100, 114, 111, 112], .str [65]], .tup [.str [99, 104, 101, 99, 107], .tup [.str [97, 61, 98]]]] := by simp [gF, Rw.d, Tx.ds, Pc.d]
  have dX : D.tup (gX.map Rw.d) = .tup [.tup [.str [115, 101, 116], .str [65], .tup [.str [120, 61, 121]]]] := by simp [gX, Rw.d, Tx.ds, Pc.d]
  have tF : ∀ S, Ends (C_file_text [.tup [.tup [.str [115, 101, 116], .str [66], .tup [.tup [.str [65], .str [58, 45], .tup [.str [120]]], .str [47]]], .tup [.str [103, 105, 118, 101], .str [65], .tup []], .tup [.str [100, 114, 111, 112], .str [65]], .tup [.str [99, 104, 101, 99, 107], .tup [.str [97, 61, 98]]]]] S) fun d S' => d = .str (fwr gF) ∧ S <+: S' := fun S => by
    rw [← dF]; exact file_text_ok gF_ok
  have tN : ∀ S, Ends (C_file_text [.tup []] S) fun d S' => d = .str [] ∧ S <+: S' := fun S => file_text_ok gN_ok
  have xN : ∀ S, Ends (C_text_of [.tup []] S) fun d S' => d = .str [] ∧ S <+: S' := fun S => by
    have := text_of_ok (S := S) gT_ok
    simpa [Tx.ds, Tx.wr] using this
  have rN : ∀ S, Ends (C_read_file [.str []] S) fun d S' => d = .tup [] ∧ S <+: S' := fun S => read_file_ok gN_ok
  have yN : ∀ S, Ends (C_read_text [.str []] S) fun d S' => d = .tup [] ∧ S <+: S' := fun S => by
    have := read_text_ok (S := S) gT_ok
    simpa [Tx.ds, Tx.wr] using this
  have rX : ∀ S, Ends (C_read_file [.str [65, 61, 120, 61, 121]] S) fun d S' => d = .tup (gX.map Rw.d) ∧ S <+: S' := fun S => by
    rw [← gX_wr]; exact read_file_ok gX_ok
  have eN : ∀ S, eqO (.tup []) (.tup []) S = some (.bl true, S) := fun S => rfl
  have eX : ∀ S, eqO (.tup (gX.map Rw.d)) (.tup [.tup [.str [115, 101, 116], .str [65], .tup [.str [120, 61, 121]]]]) S = some (.bl true, S) := fun S => by
    rw [← dX]
    obtain ⟨q, e, a⟩ := file_sh gX_ok
    exact eq_same (e S) a
  match ρ, hl with
  | [a0, a1, a2, a3, a4, a5, a6, a7, a8, a9, a10], _ =>
    simp [lEnd]
    refine (tF S).thn ?_
    rintro d S1 ⟨rfl, _⟩
    simp [gF_wr]
    refine (tN S1).thn ?_
    rintro d S2 ⟨rfl, _⟩
    simp
    refine (xN S2).thn ?_
    rintro d S3 ⟨rfl, _⟩
    simp
    refine (rN S3).thn ?_
    rintro d S4 ⟨rfl, _⟩
    simp [eN]
    refine (yN S4).thn ?_
    rintro d S5 ⟨rfl, _⟩
    simp [eN]
    refine (rX S5).thn ?_
    rintro d S6 ⟨rfl, _⟩
    simp [eX, -List.map_cons, -List.map_nil]
theorem law_turn {a : Int} {S : Store} {last : List Rw} {a0 a3 a4 a5 a6 a7 a8 a9 a10 : Option D} (h : Stt a S) (ha : a + 5000 < 90000) (hl : FileOk last) :
    Ends (lTurn [a0, some (.ref 2), some (.tup (last.map Rw.d)), a3, a4, a5, a6, a7, a8, a9, a10] S) fun o S' => ∃ rows a4 a5 a6 a7 a8 a9 a10, o = .nx [a0, some (.ref 2), some (.tup (rows.map Rw.d)), a3, a4, a5, a6, a7, a8, a9, a10] ∧ FileOk rows ∧ Stt (a + 4200) S' := by
  simp only [lTurn]
  try simp
  refine (draw_ok h (by omega) (m := 6) (by omega) (by omega)).thn ?_
  rintro d S1 ⟨⟨v, rfl, v0, v1⟩, h1, f1⟩
  obtain ⟨m, hm⟩ : ∃ m : Nat, 1 + v = (m : Int) := ⟨(1 + v).toNat, by omega⟩
  try simp

  refine (names_ok hm h1 (by omega) (m := m) (by omega) (by omega)).thn ?_
  rintro d S2 ⟨nN, names, rfl, n3, gn, nl, no, h2, f2⟩
  have N2 : Nms names nN S2 := ⟨n3, gn, by omega, by omega, no⟩
  try simp
  refine pick (n := S2.length) (xs := [.int 40, .int 6]) h2.app (by omega) h2.lt (by simp) (by simp) (by simp) (by simp) ?_
  intro d S3 hd3 h3 f3
  obtain ⟨k, rfl, k40⟩ : ∃ k : Nat, d = .int (k : Int) ∧ k ≤ 40 := by
    simp at hd3
    rcases hd3 with rfl | rfl
    · exact ⟨40, rfl, by omega⟩
    · exact ⟨6, rfl, by omega⟩
  have N3 := (N2.fr Fr.refl.app).fr f3
  refine (lfile_ok N3 h3 (by omega) k40).thn ?_
  rintro d S4 ⟨rows, rfl, fok, h4, f4⟩
  have N4 := N3.fr f4
  try simp
  refine (edge_ok h4 (by omega)).thn ?_
  rintro d S5 ⟨w, t, rfl, wok, tok, wn, tn, wf, tf, h5, f5⟩
  have N5 := N4.fr f5
  simp [tgD, setAll]
  refine (ltext_ok 8 3 _ S5 nN names (by omega) (by omega) N5 h5 (by rw [tb3]; omega)).thn ?_
  rintro d S6 ⟨u, rfl, ul, uok, un, uf, h6, f6⟩
  rw [tb3] at h6
  have uok4 := ok4_of (t := u) (M := 3) (by omega) uok (by omega)
  have e4 : [D.tup w.ds, D.tup t.ds, D.tup u.ds, D.tup []] = [w, t, u, Tx.nil].map fun t => D.tup t.ds := by simp [Tx.ds]
  have l1 := texts_loop (S := S6) (a0 := a0) (a1 := some (.ref 2)) (a2 := some (.tup (last.map Rw.d))) (a3 := a3) (a4 := a4) (a5 := some (.ref nN)) (a6 := some (.tup (rows.map Rw.d))) (a7 := a7) (a8 := a8) (a9 := some (.tup w.ds)) (a10 := some (.tup t.ds)) [w, t, u, Tx.nil] (by
    intro z hz
    simp at hz
    rcases hz with rfl | rfl | rfl | rfl
    · exact wok
    · exact tok
    · exact uok4
    · exact gT_ok)
  simp [e4]
  simp only [List.map_cons, List.map_nil, List.length_cons, List.length_nil, Nat.reduceAdd] at l1
  refine l1.thn ?_
  rintro o S7 ⟨v7, rfl, x7⟩
  simp
  have l2 := files_loop (S := S7) (a0 := a0) (a1 := some (.ref 2)) (a2 := some (.tup (last.map Rw.d))) (a3 := a3) (a4 := a4) (a5 := some (.ref nN)) (a6 := some (.tup (rows.map Rw.d))) (a7 := v7) (a8 := some (.tup [.tup [.str [115, 101, 116], .str [65], .tup w.ds], .tup [.str [103, 105, 118, 101], .str [66], .tup t.ds]])) (a9 := some (.tup w.ds)) (a10 := some (.tup t.ds)) [rows, [.set [65] w, .give [66] t], [.check t, .drop [88, 95, 89], .check .nil]] (by
    intro z hz
    simp at hz
    rcases hz with rfl | rfl | rfl
    · exact fok
    · exact more_ok wok tok wn tn wf tf
    · exact third_ok tok tn tf)
  simp only [List.map_cons, List.map_nil, List.length_cons, List.length_nil, Nat.reduceAdd, Rw.d, Tx.ds] at l2
  refine l2.thn ?_
  rintro o S8 ⟨v8, rfl, x8⟩
  have h8 : Stt (a + 4200) S8 := ((h6.of_pre x7).of_pre x8).mono (by omega)
  obtain ⟨b, eb, hb⟩ := last_ne hl fok S8
  simp [eb]
  cases b with
  | false =>
    simp
    exact ⟨rows, rfl, fok, h8⟩
  | true =>
    simp
    refine (file_text_ok hl).thn ?_
    rintro d S9 ⟨rfl, x9⟩
    refine (file_text_ok fok).thn ?_
    rintro d S10 ⟨rfl, x10⟩
    simp [hb rfl]
    exact ⟨rows, rfl, fok, (h8.of_pre x9).of_pre x10⟩
theorem law_true (ns : List Int) (hn : ns.length ≤ 63) : ∃ S, C_law [.scl (ns.map D.int)] [] = .ok (.bl true) S := by
  have main : Ends (C_law [.scl (ns.map D.int)] []) fun d S => d = .bl true := by
    unfold C_law
    rw [B_law_eq]
    simp only [ev_body, startE]
    simp
    refine (begin_ok ns hn).thn ?_
    rintro d S0 ⟨rfl, h0⟩
    obtain ⟨k, hk, k7⟩ : ∃ k : Nat, (3 : Int) + (if (ns.length : Int) < 4 then (ns.length : Int) else 4) = (k : Int) ∧ k ≤ 7 := by
      by_cases e : (ns.length : Int) < 4
      · rw [if_pos e]; exact ⟨3 + ns.length, by omega, by omega⟩
      · rw [if_neg e]; exact ⟨7, by omega, by omega⟩
    try simp
    rw [srcRg_int hk (by omega)]
    simp
    refine (for_range (fun i ρ S' => ∃ last a3 a4 a5 a6 a7 a8 a9 a10, ρ = [some (.scl (ns.map D.int)), some (.ref 2), some (.tup (last.map Rw.d)), a3, a4, a5, a6, a7, a8, a9, a10] ∧ FileOk last ∧ Stt ((i : Int) * 4200) S') (Q := fun o S' => ∃ ρ, o = .nx ρ ∧ ρ.length = 11) ?_ ?_ ?_).thn ?_
    · exact ⟨gL, none, none, none, none, none, none, none, none, by simp [gL, Rw.d, Tx.ds, Pc.d], gL_ok, by simpa using h0⟩
    · rintro i ρ S1 hi ⟨last, a3, a4, a5, a6, a7, a8, a9, a10, rfl, fl, h1⟩
      refine (law_turn (a0 := some (.scl (ns.map D.int))) (a3 := some (.int (i : Nat))) (a4 := a4) (a5 := a5) (a6 := a6) (a7 := a7) (a8 := a8) (a9 := a9) (a10 := a10) h1 (by omega) fl).mono ?_
      rintro o S2 ⟨rows, a4, a5, a6, a7, a8, a9, a10, rfl, fr, h2⟩
      exact ⟨rows, _, a4, a5, a6, a7, a8, a9, a10, rfl, fr, h2.mono (by omega)⟩
    · rintro ρ S1 ⟨last, a3, a4, a5, a6, a7, a8, a9, a10, rfl, fl, h1⟩
      exact ⟨_, rfl, rfl⟩
    · rintro o S1 ⟨ρ, rfl, hl⟩
      simp
      refine (end_ok hl).thn ?_
      rintro o S2 rfl
      simp
  obtain ⟨d, S, e, rfl⟩ := main.ex
  exact ⟨S, e⟩
end LK06

open PySem PySem.W PyProof.Rows
set_option maxHeartbeats 0 in
theorem PySem.Challenge.cw_envrows_k06_whole_written_forms_there_an_holds : PySem.Challenge.rw_envrows_k06_whole_written_forms_there_an.Holds := by
  w_on; o_law; k_head; (case hw => w_witness2)
  k_fill
  refine Al.walk_G (l := PySem.Challenge.rw_envrows_k06_whole_written_forms_there_an) (n := 63) (k := 15) (x := "script") (C := LK06.C_law) rfl (by decide) rfl ⟨⟨rfl, by decide, by decide⟩, rfl⟩ (fun w h Y => PySem.W.kIn_of Y) ?F LK06.law_true
  case F =>
    intro w mg fa h KX G hmg
    open L2 Al LK06 in
    have d_is_name := by
      refine' df_mk (x := "is_name") (st := st_is_name) (ps := ["thing"]) KX G ?a ?l ?c ?k (fun _ _ _ _ _ _ us hl => match us, hl with | [_], _ => rfl)
      (case a => k_is); (case l => k_is); (case c => k_is); (case k => k_is)
    have d_is_plain := by
      refine' df_mk (x := "is_plain") (st := st_is_plain) (ps := ["thing"]) KX G ?a ?l ?c ?k (fun _ _ _ _ _ _ us hl => match us, hl with | [_], _ => rfl)
      (case a => k_is); (case l => k_is); (case c => k_is); (case k => k_is)
    have d_is_part := by
      refine' df_mk (x := "is_part") (st := st_is_part) (ps := ["thing", "levels"]) KX G ?a ?l ?c ?k (fun _ _ _ _ _ _ us hl => match us, hl with | [_, _], _ => rfl)
      (case a => k_is); (case l => k_is); (case c => k_is); (case k => k_is)
    have d_is_text_of := by
      refine' df_mk (x := "is_text_of") (st := st_is_text_of) (ps := ["thing", "levels"]) KX G ?a ?l ?c ?k (fun _ _ _ _ _ _ us hl => match us, hl with | [_, _], _ => rfl)
      (case a => k_is); (case l => k_is); (case c => k_is); (case k => k_is)
    have d_is_text := by
      refine' df_mk (x := "is_text") (st := st_is_text) (ps := ["thing"]) KX G ?a ?l ?c ?k (fun _ _ _ _ _ _ us hl => match us, hl with | [_], _ => rfl)
      (case a => k_is); (case l => k_is); (case c => k_is); (case k => k_is)
    have d_is_row := by
      refine' df_mk (x := "is_row") (st := st_is_row) (ps := ["thing"]) KX G ?a ?l ?c ?k (fun _ _ _ _ _ _ us hl => match us, hl with | [_], _ => rfl)
      (case a => k_is); (case l => k_is); (case c => k_is); (case k => k_is)
    have d_text_of_row := by
      refine' df_mk (x := "text_of_row") (st := st_text_of_row) (ps := ["row"]) KX G ?a ?l ?c ?k (fun _ _ _ _ _ _ us hl => match us, hl with | [_], _ => rfl)
      (case a => k_is); (case l => k_is); (case c => k_is); (case k => k_is)
    have d_names_in_text := by
      refine' df_mk (x := "names_in_text") (st := st_names_in_text) (ps := ["text"]) KX G ?a ?l ?c ?k (fun _ _ _ _ _ _ us hl => match us, hl with | [_], _ => rfl)
      (case a => k_is); (case l => k_is); (case c => k_is); (case k => k_is)
    have d_names_in := by
      refine' df_mk (x := "names_in") (st := st_names_in) (ps := ["rows"]) KX G ?a ?l ?c ?k (fun _ _ _ _ _ _ us hl => match us, hl with | [_], _ => rfl)
      (case a => k_is); (case l => k_is); (case c => k_is); (case k => k_is)
    have d_need_file := by
      refine' df_mk (x := "need_file") (st := st_need_file) (ps := ["thing"]) KX G ?a ?l ?c ?k (fun _ _ _ _ _ _ us hl => match us, hl with | [_], _ => rfl)
      (case a => k_is); (case l => k_is); (case c => k_is); (case k => k_is)
    have d_written := by
      refine' df_mk (x := "written") (st := st_written) (ps := ["text"]) KX G ?a ?l ?c ?k (fun _ _ _ _ _ _ us hl => match us, hl with | [_], _ => rfl)
      (case a => k_is); (case l => k_is); (case c => k_is); (case k => k_is)
    have d_text_of := by
      refine' df_mk (x := "text_of") (st := st_text_of) (ps := ["text"]) KX G ?a ?l ?c ?k (fun _ _ _ _ _ _ us hl => match us, hl with | [_], _ => rfl)
      (case a => k_is); (case l => k_is); (case c => k_is); (case k => k_is)
    have d_row_text := by
      refine' df_mk (x := "row_text") (st := st_row_text) (ps := ["row"]) KX G ?a ?l ?c ?k (fun _ _ _ _ _ _ us hl => match us, hl with | [_], _ => rfl)
      (case a => k_is); (case l => k_is); (case c => k_is); (case k => k_is)
    have d_file_text := by
      refine' df_mk (x := "file_text") (st := st_file_text) (ps := ["file"]) KX G ?a ?l ?c ?k (fun _ _ _ _ _ _ us hl => match us, hl with | [_], _ => rfl)
      (case a => k_is); (case l => k_is); (case c => k_is); (case k => k_is)
    have d_need_sign := by
      refine' df_mk (x := "need_sign") (st := st_need_sign) (ps := ["line", "at", "signs", "row"]) KX G ?a ?l ?c ?k (fun _ _ _ _ _ _ us hl => match us, hl with | [_, _, _, _], _ => rfl)
      (case a => k_is); (case l => k_is); (case c => k_is); (case k => k_is)
    have d_name_at := by
      refine' df_mk (x := "name_at") (st := st_name_at) (ps := ["line", "at", "row"]) KX G ?a ?l ?c ?k (fun _ _ _ _ _ _ us hl => match us, hl with | [_, _, _], _ => rfl)
      (case a => k_is); (case l => k_is); (case c => k_is); (case k => k_is)
    have d_head_at := by
      refine' df_mk (x := "head_at") (st := st_head_at) (ps := ["line", "at", "row"]) KX G ?a ?l ?c ?k (fun _ _ _ _ _ _ us hl => match us, hl with | [_, _, _], _ => rfl)
      (case a => k_is); (case l => k_is); (case c => k_is); (case k => k_is)
    have d_with_plain := by
      refine' df_mk (x := "with_plain") (st := st_with_plain) (ps := ["pieces", "sign"]) KX G ?a ?l ?c ?k (fun _ _ _ _ _ _ us hl => match us, hl with | [_, _], _ => rfl)
      (case a => k_is); (case l => k_is); (case c => k_is); (case k => k_is)
    have d_text_at := by
      refine' df_mk (x := "text_at") (st := st_text_at) (ps := ["line", "at", "row"]) KX G ?a ?l ?c ?k (fun _ _ _ _ _ _ us hl => match us, hl with | [_, _, _], _ => rfl)
      (case a => k_is); (case l => k_is); (case c => k_is); (case k => k_is)
    have d_word_at := by
      refine' df_mk (x := "word_at") (st := st_word_at) (ps := ["line", "word", "row"]) KX G ?a ?l ?c ?k (fun _ _ _ _ _ _ us hl => match us, hl with | [_, _, _], _ => rfl)
      (case a => k_is); (case l => k_is); (case c => k_is); (case k => k_is)
    have d_row_told := by
      refine' df_mk (x := "row_told") (st := st_row_told) (ps := ["line", "row"]) KX G ?a ?l ?c ?k (fun _ _ _ _ _ _ us hl => match us, hl with | [_, _], _ => rfl)
      (case a => k_is); (case l => k_is); (case c => k_is); (case k => k_is)
    have d_need_string := by
      refine' df_mk (x := "need_string") (st := st_need_string) (ps := ["thing"]) KX G ?a ?l ?c ?k (fun _ _ _ _ _ _ us hl => match us, hl with | [_], _ => rfl)
      (case a => k_is); (case l => k_is); (case c => k_is); (case k => k_is)
    have d_read_text := by
      refine' df_mk (x := "read_text") (st := st_read_text) (ps := ["string"]) KX G ?a ?l ?c ?k (fun _ _ _ _ _ _ us hl => match us, hl with | [_], _ => rfl)
      (case a => k_is); (case l => k_is); (case c => k_is); (case k => k_is)
    have d_read_file := by
      refine' df_mk (x := "read_file") (st := st_read_file) (ps := ["string"]) KX G ?a ?l ?c ?k (fun _ _ _ _ _ _ us hl => match us, hl with | [_], _ => rfl)
      (case a => k_is); (case l => k_is); (case c => k_is); (case k => k_is)
    have d__law_mixed := by
      refine' df_mk (x := "_law_mixed") (st := st__law_mixed) (ps := ["cell", "k"]) KX G ?a ?l ?c ?k (fun _ _ _ _ _ _ us hl => match us, hl with | [_, _], _ => rfl)
      (case a => k_is); (case l => k_is); (case c => k_is); (case k => k_is)
    have d__law_begin := by
      refine' df_mk (x := "_law_begin") (st := st__law_begin) (ps := ["script"]) KX G ?a ?l ?c ?k (fun _ _ _ _ _ _ us hl => match us, hl with | [_], _ => rfl)
      (case a => k_is); (case l => k_is); (case c => k_is); (case k => k_is)
    have d__law_draw := by
      refine' df_mk (x := "_law_draw") (st := st__law_draw) (ps := ["state", "many"]) KX G ?a ?l ?c ?k (fun _ _ _ _ _ _ us hl => match us, hl with | [_, _], _ => rfl)
      (case a => k_is); (case l => k_is); (case c => k_is); (case k => k_is)
    have d__law_of := by
      refine' df_mk (x := "_law_of") (st := st__law_of) (ps := ["state", "some"]) KX G ?a ?l ?c ?k (fun _ _ _ _ _ _ us hl => match us, hl with | [_, _], _ => rfl)
      (case a => k_is); (case l => k_is); (case c => k_is); (case k => k_is)
    have d__law_names := by
      refine' df_mk (x := "_law_names") (st := st__law_names) (ps := ["state", "many"]) KX G ?a ?l ?c ?k (fun _ _ _ _ _ _ us hl => match us, hl with | [_, _], _ => rfl)
      (case a => k_is); (case l => k_is); (case c => k_is); (case k => k_is)
    have d__law_plain := by
      refine' df_mk (x := "_law_plain") (st := st__law_plain) (ps := ["state"]) KX G ?a ?l ?c ?k (fun _ _ _ _ _ _ us hl => match us, hl with | [_], _ => rfl)
      (case a => k_is); (case l => k_is); (case c => k_is); (case k => k_is)
    have d__law_text := by
      refine' df_mk (x := "_law_text") (st := st__law_text) (ps := ["state", "names", "deep"]) KX G ?a ?l ?c ?k (fun _ _ _ _ _ _ us hl => match us, hl with | [_, _, _], _ => rfl)
      (case a => k_is); (case l => k_is); (case c => k_is); (case k => k_is)
    have d__law_row := by
      refine' df_mk (x := "_law_row") (st := st__law_row) (ps := ["state", "names"]) KX G ?a ?l ?c ?k (fun _ _ _ _ _ _ us hl => match us, hl with | [_, _], _ => rfl)
      (case a => k_is); (case l => k_is); (case c => k_is); (case k => k_is)
    have d__law_file := by
      refine' df_mk (x := "_law_file") (st := st__law_file) (ps := ["state", "names", "most"]) KX G ?a ?l ?c ?k (fun _ _ _ _ _ _ us hl => match us, hl with | [_, _, _], _ => rfl)
      (case a => k_is); (case l => k_is); (case c => k_is); (case k => k_is)
    have d__law_written := by
      refine' df_mk (x := "_law_written") (st := st__law_written) (ps := ["text"]) KX G ?a ?l ?c ?k (fun _ _ _ _ _ _ us hl => match us, hl with | [_], _ => rfl)
      (case a => k_is); (case l => k_is); (case c => k_is); (case k => k_is)
    have d__law_row_written := by
      refine' df_mk (x := "_law_row_written") (st := st__law_row_written) (ps := ["row"]) KX G ?a ?l ?c ?k (fun _ _ _ _ _ _ us hl => match us, hl with | [_], _ => rfl)
      (case a => k_is); (case l => k_is); (case c => k_is); (case k => k_is)
    have d__law_edge := by
      refine' df_mk (x := "_law_edge") (st := st__law_edge) (ps := ["state"]) KX G ?a ?l ?c ?k (fun _ _ _ _ _ _ us hl => match us, hl with | [_], _ => rfl)
      (case a => k_is); (case l => k_is); (case c => k_is); (case k => k_is)
    have d__law_text_right := by
      refine' df_mk (x := "_law_text_right") (st := st__law_text_right) (ps := ["text"]) KX G ?a ?l ?c ?k (fun _ _ _ _ _ _ us hl => match us, hl with | [_], _ => rfl)
      (case a => k_is); (case l => k_is); (case c => k_is); (case k => k_is)
    have d__law_file_right := by
      refine' df_mk (x := "_law_file_right") (st := st__law_file_right) (ps := ["rows"]) KX G ?a ?l ?c ?k (fun _ _ _ _ _ _ us hl => match us, hl with | [_], _ => rfl)
      (case a => k_is); (case l => k_is); (case c => k_is); (case k => k_is)
    have d_law := by
      refine' df_mk (x := "law") (st := st_law) (ps := ["script"]) KX G ?a ?l ?c ?k (fun _ _ _ _ _ _ us hl => match us, hl with | [_], _ => rfl)
      (case a => k_is); (case l => k_is); (case c => k_is); (case k => k_is)
    have c_ASKED := by
      refine' cn_str (x := "ASKED") KX G ?a [63] rfl
      (case a => k_is)
    have c_BEGIN := by
      refine' cn_str (x := "BEGIN") KX G ?a [36, 123] rfl
      (case a => k_is)
    have c_BLANK := by
      refine' cn_str (x := "BLANK") KX G ?a [32] rfl
      (case a => k_is)
    have c_CAPITALS := by
      refine' cn_str (x := "CAPITALS") KX G ?a [65, 66, 67, 68, 69, 70, 71, 72, 73, 74, 75, 76, 77, 78, 79, 80, 81, 82, 83, 84, 85, 86, 87, 88, 89, 90] rfl
      (case a => k_is)
    have c_CHECK := by
      refine' cn_str (x := "CHECK") KX G ?a [99, 104, 101, 99, 107] rfl
      (case a => k_is)
    have c_COLON := by
      refine' cn_str (x := "COLON") KX G ?a [58] rfl
      (case a => k_is)
    have c_CURLY := by
      refine' cn_str (x := "CURLY") KX G ?a [123] rfl
      (case a => k_is)
    have c_DOLLAR := by
      refine' cn_str (x := "DOLLAR") KX G ?a [36] rfl
      (case a => k_is)
    have c_DROP := by
      refine' cn_str (x := "DROP") KX G ?a [100, 114, 111, 112] rfl
      (case a => k_is)
    have c_END := by
      refine' cn_str (x := "END") KX G ?a [125] rfl
      (case a => k_is)
    have c_EQUALS := by
      refine' cn_str (x := "EQUALS") KX G ?a [61] rfl
      (case a => k_is)
    have c_GIVE := by
      refine' cn_str (x := "GIVE") KX G ?a [103, 105, 118, 101] rfl
      (case a => k_is)
    have c_GIVEN := by
      refine' cn_str (x := "GIVEN") KX G ?a [63, 61] rfl
      (case a => k_is)
    have c_KINDS := by
      refine' cn_str (x := "KINDS") KX G ?a [45, 43, 63, 61] rfl
      (case a => k_is)
    have c_MOST_IN_NAME := by
      refine' cn_int (x := "MOST_IN_NAME") KX G ?a
      (case a => k_is)
    have c_MOST_LEVELS := by
      refine' cn_int (x := "MOST_LEVELS") KX G ?a
      (case a => k_is)
    have c_MOST_NAMES := by
      refine' cn_int (x := "MOST_NAMES") KX G ?a
      (case a => k_is)
    have c_MOST_PIECES := by
      refine' cn_int (x := "MOST_PIECES") KX G ?a
      (case a => k_is)
    have c_MOST_PLAIN := by
      refine' cn_int (x := "MOST_PLAIN") KX G ?a
      (case a => k_is)
    have c_MOST_ROWS := by
      refine' cn_int (x := "MOST_ROWS") KX G ?a
      (case a => k_is)
    have c_NEWLINE := by
      refine' cn_str (x := "NEWLINE") KX G ?a [10] rfl
      (case a => k_is)
    have c_PLAIN_SIGNS := by
      refine' cn_str (x := "PLAIN_SIGNS") KX G ?a [97, 98, 99, 100, 101, 102, 103, 104, 105, 106, 107, 108, 109, 110, 111, 112, 113, 114, 115, 116, 117, 118, 119, 120, 121, 122, 48, 49, 50, 51, 52, 53, 54, 55, 56, 57, 32, 95, 46, 47, 58, 61, 44, 64, 45] rfl
      (case a => k_is)
    have c_SET := by
      refine' cn_str (x := "SET") KX G ?a [115, 101, 116] rfl
      (case a => k_is)
    have c_SIGNS := by
      refine' cn_strs (x := "SIGNS") KX G ?a ?l [[], [45], [58, 45], [43], [58, 43], [63], [58, 63], [61], [58, 61]] ?h1 ?h3 ?s ?v
      (case a => k_is); (case l => k_is); (case h1 => rfl); (case h3 => rfl); (case s => decide); (case v => exact (.cons rfl (.cons rfl (.cons rfl (.cons rfl (.cons rfl (.cons rfl (.cons rfl (.cons rfl (.cons rfl .nil))))))))))
    have n_all : mg "all" = none := PySem.W.mg_none_of KX G (by k_is)
    have n_enumerate : mg "enumerate" = none := PySem.W.mg_none_of KX G (by k_is)
    have n_int : mg "int" = none := PySem.W.mg_none_of KX G (by k_is)
    have n_isinstance : mg "isinstance" = none := PySem.W.mg_none_of KX G (by k_is)
    have n_len : mg "len" = none := PySem.W.mg_none_of KX G (by k_is)
    have n_list : mg "list" = none := PySem.W.mg_none_of KX G (by k_is)
    have n_min : mg "min" = none := PySem.W.mg_none_of KX G (by k_is)
    have n_range : mg "range" = none := PySem.W.mg_none_of KX G (by k_is)
    have n_repr : mg "repr" = none := PySem.W.mg_none_of KX G (by k_is)
    have n_set : mg "set" = none := PySem.W.mg_none_of KX G (by k_is)
    have n_sorted : mg "sorted" = none := PySem.W.mg_none_of KX G (by k_is)
    have n_str : mg "str" = none := PySem.W.mg_none_of KX G (by k_is)
    have n_tuple : mg "tuple" = none := PySem.W.mg_none_of KX G (by k_is)
    exact ok_end d_law hmg fun base => LK06.ok_law (base := base) ⟨c_ASKED, c_BEGIN, c_BLANK, c_CAPITALS, c_CHECK, c_COLON, c_CURLY, c_DOLLAR, c_DROP, c_END, c_EQUALS, c_GIVE, c_GIVEN, c_KINDS, c_MOST_IN_NAME, c_MOST_LEVELS, c_MOST_NAMES, c_MOST_PIECES, c_MOST_PLAIN, c_MOST_ROWS, c_NEWLINE, c_PLAIN_SIGNS, c_SET, c_SIGNS, n_all, n_enumerate, n_int, n_isinstance, n_len, n_list, n_min, n_range, n_repr, n_set, n_sorted, n_str, n_tuple, d_is_name, d_is_plain, d_is_part, d_is_text_of, d_is_text, d_is_row, d_text_of_row, d_names_in_text, d_names_in, d_need_file, d_written, d_text_of, d_row_text, d_file_text, d_need_sign, d_name_at, d_head_at, d_with_plain, d_text_at, d_word_at, d_row_told, d_need_string, d_read_text, d_read_file, d__law_mixed, d__law_begin, d__law_draw, d__law_of, d__law_names, d__law_plain, d__law_text, d__law_row, d__law_file, d__law_written, d__law_row_written, d__law_edge, d__law_text_right, d__law_file_right, d_law⟩
