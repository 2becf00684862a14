import PyProof.Rows.All
import Wide.All
import OpenK.AllK
import Wide.FinOn
import KE.RegKTryMore
import HandS.ForMost
import HandS.ForExc
import HandS.IsInst
import HandS.TupAny
import HandS.Walk
import HandS.Conv
import KE.KDictKeyed
import HandS.TupMul
import KE.GoesEnum
import KE.GoesMore
import HandS.CallSlots
import HandS.Ends
import HandS.Set
import HandS.SetFor
import PyProof.Rows.SortShellAny
import HandS.Strs
import HandS.Text
import HandS.ExcInit
import HandS.ExcSuper
import HandS.ExcField
import HandS.More
import HandS.DictComp
import KE.KDictWalk
import HandS.Zip
import PySem.Challenge.RW_envrows_k34_fixed_and_lasting_by_hand
set_option Elab.async false
set_option linter.all false
set_option maxRecDepth 100000
/-! Al: an abstract layer over HandS: values by content (tuples by value, lists, dicts and instances by their number in a store), and for each construct the function that it computes. -/
namespace Al
/-- the written part, and the world (its hashes) -/
structure KW where
  K : PySem.W.Frag
  w : PySem.World
instance : CoeOut KW PySem.W.Frag := ⟨KW.K⟩
end Al
abbrev L2.Cx.kw (X : L2.Cx) : Al.KW := ⟨X.K, X.w⟩
namespace Al
open PySem PySem.Spec PyProof.Rows L2

/-! ### values and stores -/
abbrev St := L2.St
inductive D where
  | non | bl (b : Bool) | int (i : Int) | str (x : List Nat) | tup (ds : List D) | ref (n : Nat)
  /-- a list from outside that nobody changes (the script) -/
  | scl (ds : List D)
  deriving Inhabited

/-- a text as its code points -/
def cs (x : String) : List Nat := x.toList.map fun c => c.toNat
abbrev toS (x : List Nat) : Str := ⟨x.toArray⟩

inductive O where
  | lst (xs : List D)
  | dct (kvs : List (List Nat × D))
  | ins (C : Addr) (fs : List (Str × D))
  /-- a dict that is being walked -/
  | ldct (kvs : List (List Nat × D))
  /-- a dict with tuples as keys; l: it is being walked -/
  | tdct (l : Bool) (kvs : List (D × D))
abbrev Store := List O
abbrev Env := List (Option D)

/-- an exception: its class, its fields -/
structure Xc where
  cls : Addr
  fs : List (Str × D)

inductive Res (α : Type) where
  | ok (a : α) (S : Store)
  | exc (x : Xc) (S : Store)
  | stuck

def Res.bind {α β : Type} (r : Res α) (f : α → Store → Res β) : Res β := match r with
  | .ok a S => f a S
  | .exc x S => .exc x S
  | .stuck => .stuck
@[simp] theorem Res.bind_ok {α β : Type} (a : α) (S : Store) (f : α → Store → Res β) : (Res.ok a S).bind f = f a S := rfl
@[simp] theorem Res.bind_exc {α β : Type} (x : Xc) (S : Store) (f : α → Store → Res β) : (Res.exc x S : Res α).bind f = .exc x S := rfl
@[simp] theorem Res.bind_stuck {α β : Type} (f : α → Store → Res β) : (Res.stuck : Res α).bind f = .stuck := rfl
def Res.of {α : Type} (o : Option (α × Store)) : Res α := match o with
  | some p => .ok p.1 p.2
  | none => .stuck

mutual
/-- a key of a dict -/
def nkOf : D → Option NestedKey
  | .non => some .none
  | .bl b => some (.num (if b = true then 1 else 0))
  | .int i => some (.num i)
  | .str x => some (.text (toS x))
  | .tup ds => (nkAll ds).map .tup
  | .ref _ => none
  | .scl _ => none
def nkAll : List D → Option (List NestedKey)
  | [] => some []
  | d :: ds => match nkOf d, nkAll ds with
    | some k, some ks => some (k :: ks)
    | _, _ => none
end
/-! ### how they are held -/
section
variable (K : KW) (φ : List Addr) (H : Hp)
/-- a list that is never changed -/
def FzL (p : Addr) (vs : List V) : Prop := (∃ o, H p = some (.frz o (.lst vs))) ∨ ∃ (o : Obj) (its : Array Value) (n : Nat), K.K.lookup p = some o ∧ o.cls = .type "list" ∧ o.dict = none ∧ o.data = .seq its n ∧ its.size ≤ sizeLine ∧ Vals vs its.toList
mutual
def RV : D → V → Prop
  | .non, v => v = .non
  | .bl b, v => v = .bl b
  | .int i, v => v = .int i
  | .str x, v => v = .str (toS x)
  | .tup ds, v => ∃ p vs, v = .ref p ∧ SqT K H p vs ∧ RVs ds vs
  | .ref n, v => ∃ p, v = .ref p ∧ φ[n]? = some p
  | .scl ds, v => ∃ p vs, v = .ref p ∧ FzL K H p vs ∧ RVs ds vs
def RVs : List D → List V → Prop
  | [], vs => vs = []
  | d :: ds, vs => ∃ v r, vs = v :: r ∧ RV d v ∧ RVs ds r
end
def RK (p : List Nat × D) (q : Key × V) : Prop := q.1 = .inr (toS p.1) ∧ RV K φ H p.2 q.2
def RKs : List (List Nat × D) → List (Key × V) → Prop
  | [], q => q = []
  | p :: ps, q => ∃ x r, q = x :: r ∧ RK K φ H p x ∧ RKs ps r
def RFs : List (Str × D) → List (Str × V) → Prop
  | [], q => q = []
  | p :: ps, q => ∃ v r, q = (p.1, v) :: r ∧ RV K φ H p.2 v ∧ RFs ps r
/-- a dict at p with these entries -/
def nd (p : Addr) (es : Array DictEntry) (ep : Nat) : HO := .ext fun h => ∃ o, h.get? p = some o ∧ o.ExactDict ∧ o.data = .dict es ep
abbrev NK := NestedKey × Addr × Value
def RT (p : D × D) (x : NK) : Prop := nkOf p.1 = some x.1 ∧ x.1.depth ≤ 8 ∧ RV K φ H p.1 (.ref x.2.1) ∧ ∃ v, RelV v x.2.2 ∧ RV K φ H p.2 v
def RTs : List (D × D) → List NK → Prop
  | [], q => q = []
  | p :: ps, q => ∃ x r, q = x :: r ∧ RT K φ H p x ∧ RTs ps r
def nkE (w : World) (x : NK) : DictEntry := ⟨x.1.hash w, .ref x.2.1, x.2.2⟩
/-- a dict with tuples as keys, at p -/
def TD (p : Addr) (l : Bool) (kvs : List (D × D)) : Prop := ∃ (es : Array DictEntry) (ep : Nat) (xs : List NK), (if l = true then ∃ od, H p = some (.frz od (nd p es ep)) else H p = some (nd p es ep)) ∧ es.toList = xs.map (nkE K.w) ∧ (xs.map (·.1)).Nodup ∧ (p == sysModules) = false ∧ RTs K φ H kvs xs
def RO (p : Addr) : O → Prop
  | .lst xs => ∃ vs, H p = some (.lst vs) ∧ RVs K φ H xs vs
  | .dct kvs => ∃ vs, H p = some (.dK vs) ∧ RKs K φ H kvs vs
  | .ins C fs => ∃ dx vs, H p = some (.ins C dx vs) ∧ H dx = some (.own p) ∧ RFs K φ H fs vs
  | .ldct kvs => ∃ od vs, H p = some (.frz od (.dK vs)) ∧ RKs K φ H kvs vs
  | .tdct l kvs => TD K φ H p l kvs
structure RH (S : Store) : Prop where
  len : φ.length = S.length
  nd : φ.Nodup
  at_ : ∀ (i : Nat) (o : O) (p : Addr), S[i]? = some o → φ[i]? = some p → RO K φ H p o
/-- slots -/
def RL (σ : St) (ρ : Env) : Prop := σ.length = ρ.length ∧ ∀ (i : Nat) (d : D), ρ[i]? = some (some d) → ∃ v, σ[i]? = some (some v) ∧ RV K φ H d v
def RX (x : Xc) (cv : Value) (dx : Option Addr) : Prop := cv = .ref x.cls ∧ ((x.fs = [] ∧ dx = none) ∨ ∃ a vs, dx = some a ∧ H a = some (.xd vs) ∧ RFs K φ H x.fs vs)
end
/-- what stays: the numbers, the tuples -/
structure Ex0 (K : KW) (φ : List Addr) (H : Hp) (φ' : List Addr) (H' : Hp) : Prop where
  pre : φ <+: φ'
  sq : ∀ p xs, SqT K H p xs → SqT K H' p xs
  fz : ∀ p xs, FzL K H p xs → FzL K H' p xs
structure Ext (K : KW) (φ : List Addr) (H : Hp) (φ' : List Addr) (H' : Hp) : Prop where
  pre : φ <+: φ'
  sq : ∀ p xs, SqT K H p xs → SqT K H' p xs
  fz : ∀ p xs, FzL K H p xs → FzL K H' p xs
  xd : ∀ p vs, H p = some (.xd vs) → H' p = some (.xd vs)
  fr : ∀ p o u, H p = some (.frz o u) → H' p = some (.frz o u)
theorem Ext.e0 {K : KW} {φ : List Addr} {H : Hp} {φ' : List Addr} {H' : Hp} (x : Ext K φ H φ' H') : Ex0 K φ H φ' H' := ⟨x.pre, x.sq, x.fz⟩
section
variable {K : KW} {φ φ1 φ2 : List Addr} {H H1 H2 : Hp}
theorem FzL.sq {p : Addr} {vs : List V} (h : FzL K H p vs) : SqL K H p vs := by
  rcases h with ⟨o, h⟩ | h
  · exact .inl (.inr ⟨o, h⟩)
  · exact .inr h
theorem Ext.refl : Ext K φ H φ H := ⟨List.prefix_refl _, fun _ _ h => h, fun _ _ h => h, fun _ _ h => h, fun _ _ _ h => h⟩
theorem Ext.trans (a : Ext K φ H φ1 H1) (b : Ext K φ1 H1 φ2 H2) : Ext K φ H φ2 H2 := ⟨a.pre.trans b.pre, fun p xs h => b.sq p xs (a.sq p xs h), fun p xs h => b.fz p xs (a.fz p xs h), fun p xs h => b.xd p xs (a.xd p xs h), fun p o u h => b.fr p o u (a.fr p o u h)⟩
theorem pre_get {α : Type} {l l' : List α} (h : l <+: l') {i : Nat} {x : α} (e : l[i]? = some x) : l'[i]? = some x := by
  obtain ⟨t, rfl⟩ := h
  rw [List.getElem?_append_left]
  · exact e
  · exact (List.getElem?_eq_some_iff.mp e).1
mutual
theorem RV.ext0 (x : Ex0 K φ H φ1 H1) : ∀ {d : D} {v : V}, RV K φ H d v → RV K φ1 H1 d v
  | .non, v, h => by unfold RV at h ⊢; exact h
  | .bl b, v, h => by unfold RV at h ⊢; exact h
  | .int i, v, h => by unfold RV at h ⊢; exact h
  | .str s, v, h => by unfold RV at h ⊢; exact h
  | .tup ds, v, h => by
    unfold RV at h ⊢
    obtain ⟨p, vs, e, q, r⟩ := h
    exact ⟨p, vs, e, x.sq p vs q, RVs.ext0 x r⟩
  | .ref n, v, h => by
    unfold RV at h ⊢
    obtain ⟨p, e, q⟩ := h
    exact ⟨p, e, pre_get x.pre q⟩
  | .scl ds, v, h => by
    unfold RV at h ⊢
    obtain ⟨p, vs, e, q, r⟩ := h
    exact ⟨p, vs, e, x.fz p vs q, RVs.ext0 x r⟩
theorem RVs.ext0 (x : Ex0 K φ H φ1 H1) : ∀ {ds : List D} {vs : List V}, RVs K φ H ds vs → RVs K φ1 H1 ds vs
  | [], vs, h => by unfold RVs at h ⊢; exact h
  | d :: ds, vs, h => by
    unfold RVs at h ⊢
    obtain ⟨v, r, e, h1, h2⟩ := h
    exact ⟨v, r, e, RV.ext0 x h1, RVs.ext0 x h2⟩
end
theorem RKs.ext0 (x : Ex0 K φ H φ1 H1) : ∀ {ds : List (List Nat × D)} {vs : List (Key × V)}, RKs K φ H ds vs → RKs K φ1 H1 ds vs
  | [], vs, h => h
  | d :: ds, vs, h => by
    obtain ⟨v, r, e, ⟨h0, h1⟩, h2⟩ := h
    exact ⟨v, r, e, ⟨h0, h1.ext0 x⟩, RKs.ext0 x h2⟩
theorem RFs.ext0 (x : Ex0 K φ H φ1 H1) : ∀ {ds : List (Str × D)} {vs : List (Str × V)}, RFs K φ H ds vs → RFs K φ1 H1 ds vs
  | [], vs, h => h
  | d :: ds, vs, h => by
    obtain ⟨v, r, e, h1, h2⟩ := h
    exact ⟨v, r, e, h1.ext0 x, RFs.ext0 x h2⟩
theorem RTs.ext0 (x : Ex0 K φ H φ1 H1) : ∀ {ds : List (D × D)} {vs : List NK}, RTs K φ H ds vs → RTs K φ1 H1 ds vs
  | [], vs, h => h
  | d :: ds, vs, h => by
    obtain ⟨v, r, e, ⟨h0, h1, h2, u, h3, h4⟩, h5⟩ := h
    exact ⟨v, r, e, ⟨h0, h1, h2.ext0 x, u, h3, h4.ext0 x⟩, RTs.ext0 x h5⟩
theorem RL.ext0 {σ : St} {ρ : Env} (h : RL K φ H σ ρ) (x : Ex0 K φ H φ1 H1) : RL K φ1 H1 σ ρ := ⟨h.1, fun i d e => by
  obtain ⟨v, e1, r⟩ := h.2 i d e
  exact ⟨v, e1, r.ext0 x⟩⟩
theorem RV.ext (x : Ext K φ H φ1 H1) {d : D} {v : V} (h : RV K φ H d v) : RV K φ1 H1 d v := RV.ext0 x.e0 h
theorem RVs.ext (x : Ext K φ H φ1 H1) {d : List D} {v : List V} (h : RVs K φ H d v) : RVs K φ1 H1 d v := RVs.ext0 x.e0 h
theorem RKs.ext (x : Ext K φ H φ1 H1) {d : List (List Nat × D)} {v : List (Key × V)} (h : RKs K φ H d v) : RKs K φ1 H1 d v := RKs.ext0 x.e0 h
theorem RFs.ext (x : Ext K φ H φ1 H1) {d : List (Str × D)} {v : List (Str × V)} (h : RFs K φ H d v) : RFs K φ1 H1 d v := RFs.ext0 x.e0 h
theorem RTs.ext (x : Ext K φ H φ1 H1) {d : List (D × D)} {v : List NK} (h : RTs K φ H d v) : RTs K φ1 H1 d v := RTs.ext0 x.e0 h
theorem RL.ext {σ : St} {ρ : Env} (h : RL K φ H σ ρ) (x : Ext K φ H φ1 H1) : RL K φ1 H1 σ ρ := RL.ext0 h x.e0
theorem RX.ext {x : Xc} {cv : Value} {dx : Option Addr} (h : RX K φ H x cv dx) (e : Ext K φ H φ1 H1) : RX K φ1 H1 x cv dx := by
  obtain ⟨h1, h2 | ⟨a, vs, h2, h3, h4⟩⟩ := h
  · exact ⟨h1, .inl h2⟩
  · exact ⟨h1, .inr ⟨a, vs, h2, e.xd _ _ h3, h4.ext e⟩⟩
/-! ### lists of values -/
theorem RVs.length : ∀ {ds : List D} {vs : List V}, RVs K φ H ds vs → ds.length = vs.length
  | [], vs, h => by unfold RVs at h; rw [h]; rfl
  | d :: ds, vs, h => by
    unfold RVs at h
    obtain ⟨v, r, e, _, h2⟩ := h
    rw [e, List.length_cons, List.length_cons, RVs.length h2]
theorem RVs.get : ∀ {ds : List D} {vs : List V} {i : Nat} {d : D}, RVs K φ H ds vs → ds[i]? = some d → ∃ v, vs[i]? = some v ∧ RV K φ H d v
  | [], vs, i, d, h, e => by simp at e
  | d0 :: ds, vs, 0, d, h, e => by
    unfold RVs at h
    obtain ⟨v, r, e1, h1, _⟩ := h
    simp at e
    subst e e1
    exact ⟨v, rfl, h1⟩
  | d0 :: ds, vs, i + 1, d, h, e => by
    unfold RVs at h
    obtain ⟨v, r, e1, _, h2⟩ := h
    subst e1
    obtain ⟨v', e2, h3⟩ := RVs.get (i := i) h2 (by simpa using e)
    exact ⟨v', by simpa using e2, h3⟩
theorem RVs.nil : RVs K φ H [] [] := by unfold RVs; rfl
theorem RVs.cons {d : D} {ds : List D} {v : V} {vs : List V} (h : RV K φ H d v) (hs : RVs K φ H ds vs) : RVs K φ H (d :: ds) (v :: vs) := by unfold RVs; exact ⟨v, vs, rfl, h, hs⟩
theorem RVs.nil_iff {vs : List V} (h : RVs K φ H [] vs) : vs = [] := by unfold RVs at h; exact h
theorem RVs.cons_iff {d : D} {ds : List D} {vs : List V} (h : RVs K φ H (d :: ds) vs) : ∃ v r, vs = v :: r ∧ RV K φ H d v ∧ RVs K φ H ds r := by unfold RVs at h; exact h
theorem RVs.append : ∀ {ds es : List D} {vs ws : List V}, RVs K φ H ds vs → RVs K φ H es ws → RVs K φ H (ds ++ es) (vs ++ ws)
  | [], es, vs, ws, h, h' => by cases h.nil_iff; exact h'
  | d :: ds, es, vs, ws, h, h' => by
    obtain ⟨v, r, rfl, h1, h2⟩ := h.cons_iff
    exact .cons h1 (RVs.append h2 h')
theorem RVs.set {d : D} {v : V} (hd : RV K φ H d v) : ∀ {ds : List D} {vs : List V} (i : Nat), RVs K φ H ds vs → RVs K φ H (ds.set i d) (vs.set i v)
  | [], vs, i, h => by cases h.nil_iff; simp; exact .nil
  | d0 :: ds, vs, 0, h => by
    obtain ⟨v0, r, rfl, h1, h2⟩ := h.cons_iff
    exact .cons hd h2
  | d0 :: ds, vs, i + 1, h => by
    obtain ⟨v0, r, rfl, h1, h2⟩ := h.cons_iff
    exact .cons h1 (RVs.set hd i h2)
theorem RVs.take : ∀ {ds : List D} {vs : List V} (n : Nat), RVs K φ H ds vs → RVs K φ H (ds.take n) (vs.take n)
  | _, _, 0, _ => by simp; exact .nil
  | [], vs, n + 1, h => by cases h.nil_iff; simp; exact .nil
  | d0 :: ds, vs, n + 1, h => by
    obtain ⟨v0, r, rfl, h1, h2⟩ := h.cons_iff
    exact .cons h1 (RVs.take n h2)
theorem RVs.drop : ∀ {ds : List D} {vs : List V} (n : Nat), RVs K φ H ds vs → RVs K φ H (ds.drop n) (vs.drop n)
  | _, _, 0, h => by simpa using h
  | [], vs, n + 1, h => by cases h.nil_iff; simp; exact .nil
  | d0 :: ds, vs, n + 1, h => by
    obtain ⟨v0, r, rfl, h1, h2⟩ := h.cons_iff
    simpa using RVs.drop n h2
theorem RVs.eraseIdx : ∀ {ds : List D} {vs : List V} (n : Nat), RVs K φ H ds vs → RVs K φ H (ds.eraseIdx n) (vs.eraseIdx n)
  | [], vs, n, h => by cases h.nil_iff; simp; exact .nil
  | d0 :: ds, vs, 0, h => by
    obtain ⟨v0, r, rfl, h1, h2⟩ := h.cons_iff
    simpa using h2
  | d0 :: ds, vs, n + 1, h => by
    obtain ⟨v0, r, rfl, h1, h2⟩ := h.cons_iff
    exact .cons h1 (RVs.eraseIdx n h2)
theorem RVs.dropLast {ds : List D} {vs : List V} (h : RVs K φ H ds vs) : RVs K φ H ds.dropLast vs.dropLast := by
  rw [List.dropLast_eq_take, List.dropLast_eq_take, h.length]
  exact h.take _
theorem RVs.strs : ∀ {xs : List (List Nat)} {vs : List V}, RVs K φ H (xs.map .str) vs → vs = (xs.map toS).map V.str
  | [], vs, h => h.nil_iff
  | x :: xs, vs, h => by
    obtain ⟨v, r, rfl, h1, h2⟩ := h.cons_iff
    unfold RV at h1
    rw [h1, RVs.strs h2]
    rfl
theorem RVs.of_strs : ∀ (xs : List (List Nat)), RVs K φ H (xs.map .str) ((xs.map toS).map V.str)
  | [] => .nil
  | x :: xs => .cons (by unfold RV; rfl) (RVs.of_strs xs)
theorem RVs.bls : ∀ {xs : List Bool} {vs : List V}, RVs K φ H (xs.map .bl) vs → vs = xs.map V.bl
  | [], vs, h => h.nil_iff
  | x :: xs, vs, h => by
    obtain ⟨v, r, rfl, h1, h2⟩ := h.cons_iff
    unfold RV at h1
    rw [h1, RVs.bls h2]
    rfl
theorem RVs.ints : ∀ {xs : List Int} {vs : List V}, RVs K φ H (xs.map .int) vs → vs = xs.map V.int
  | [], vs, h => h.nil_iff
  | x :: xs, vs, h => by
    obtain ⟨v, r, rfl, h1, h2⟩ := h.cons_iff
    unfold RV at h1
    rw [h1, RVs.ints h2]
    rfl
theorem RVs.of_ints : ∀ (xs : List Int), RVs K φ H (xs.map .int) (xs.map V.int)
  | [] => .nil
  | x :: xs => .cons (by unfold RV; rfl) (RVs.of_ints xs)
end

/-! ### tuples under changes of the heap -/
section
variable {K : KW} {φ : List Addr} {H : Hp} {p : Addr} {o : HO}
theorem sq_upd (h1 : ∀ xs, H p ≠ some (.tup xs)) (h2 : ∀ o u, H p ≠ some (.frz o u)) : ∀ q xs, SqT K H q xs → SqT K (upd H p o) q xs := fun q xs h => by
  rcases h with (h | ⟨ob, h⟩) | h
  · have : q ≠ p := fun e => h1 xs (e ▸ h)
    exact .inl (.inl (by rw [upd_ne this]; exact h))
  · have : q ≠ p := fun e => h2 ob _ (e ▸ h)
    exact .inl (.inr ⟨ob, by rw [upd_ne this]; exact h⟩)
  · exact .inr h
theorem fz_upd (h2 : ∀ o u, H p ≠ some (.frz o u)) : ∀ q xs, FzL K H q xs → FzL K (upd H p o) q xs := fun q xs h => by
  rcases h with ⟨ob, h⟩ | h
  · have : q ≠ p := fun e => h2 ob _ (e ▸ h)
    exact .inl ⟨ob, by rw [upd_ne this]; exact h⟩
  · exact .inr h
theorem sq_new (h : H p = none) : ∀ q xs, SqT K H q xs → SqT K (upd H p o) q xs := sq_upd (fun xs e => by rw [h] at e; cases e) (fun o u e => by rw [h] at e; cases e)
theorem fz_new (h : H p = none) : ∀ q xs, FzL K H q xs → FzL K (upd H p o) q xs := fz_upd (fun o u e => by rw [h] at e; cases e)
theorem xd_new (h : H p = none) : ∀ q vs, H q = some (.xd vs) → upd H p o q = some (.xd vs) := fun q vs e => by rw [upd_ne (ne_of_none e h)]; exact e
theorem fr_new (h : H p = none) : ∀ q ob u, H q = some (.frz ob u) → upd H p o q = some (.frz ob u) := fun q ob u e => by rw [upd_ne (ne_of_none e h)]; exact e
theorem Ext.new (h : H p = none) : Ext K φ H φ (upd H p o) := ⟨List.prefix_refl _, sq_new h, fz_new h, xd_new h, fr_new h⟩
theorem Ext.num (h : H p = none) : Ext K φ H (φ ++ [p]) (upd H p o) := ⟨List.prefix_append _ _, sq_new h, fz_new h, xd_new h, fr_new h⟩
/-- not a tuple -/
def Mu (o : Option HO) : Prop := (∀ xs, o ≠ some (.tup xs)) ∧ (∀ b u, o ≠ some (.frz b u)) ∧ ∀ vs, o ≠ some (.xd vs)
theorem Ext.wr (m : Mu (H p)) : Ext K φ H φ (upd H p o) := ⟨List.prefix_refl _, sq_upd m.1 m.2.1, fz_upd m.2.1, fun q vs e => by
  have ne : q ≠ p := fun z => m.2.2 vs (by rw [← z]; exact e)
  rw [upd_ne ne]
  exact e, fun q ob u e => by
  have ne : q ≠ p := fun z => m.2.1 ob u (by rw [← z]; exact e)
  rw [upd_ne ne]
  exact e⟩
theorem mu_lst {vs : List V} (h : H p = some (.lst vs)) : Mu (H p) := by rw [h]; exact ⟨fun _ e => (by cases e), fun _ _ e => (by cases e), fun _ e => (by cases e)⟩
theorem mu_dK {vs : List (Key × V)} (h : H p = some (.dK vs)) : Mu (H p) := by rw [h]; exact ⟨fun _ e => (by cases e), fun _ _ e => (by cases e), fun _ e => (by cases e)⟩
theorem mu_ins {C dx : Addr} {vs : List (Str × V)} (h : H p = some (.ins C dx vs)) : Mu (H p) := by rw [h]; exact ⟨fun _ e => (by cases e), fun _ _ e => (by cases e), fun _ e => (by cases e)⟩
end
section
variable {K : KW} {φ : List Addr} {S : Store} {H : Hp} {p : Addr} {o : HO} {x : O}
theorem RO.there (h : RO K φ H p x) : H p ≠ none := by
  cases x with
  | lst xs => obtain ⟨_, e, _⟩ := h; rw [e]; exact fun z => nomatch z
  | dct xs => obtain ⟨_, e, _⟩ := h; rw [e]; exact fun z => nomatch z
  | ins C fs => obtain ⟨_, _, e, _⟩ := h; rw [e]; exact fun z => nomatch z
  | ldct kvs => obtain ⟨_, _, e, _⟩ := h; rw [e]; exact fun z => nomatch z
  | tdct l kvs =>
    obtain ⟨_, _, _, e, _⟩ := h
    split at e
    · obtain ⟨_, e⟩ := e; rw [e]; exact fun z => nomatch z
    · rw [e]; exact fun z => nomatch z
/-- an object that is not touched -/
theorem RO.ext0 {φ1 : List Addr} {H1 : Hp} (h : RO K φ H p x) (e : Ex0 K φ H φ1 H1) (hp : H1 p = H p) (hd : ∀ q, H q = some (.own p) → H1 q = some (.own p)) : RO K φ1 H1 p x := by
  cases x with
  | lst xs => obtain ⟨vs, e1, r⟩ := h; exact ⟨vs, hp.trans e1, r.ext0 e⟩
  | dct xs => obtain ⟨vs, e1, r⟩ := h; exact ⟨vs, hp.trans e1, r.ext0 e⟩
  | ins C fs => obtain ⟨dx, vs, e1, e2, r⟩ := h; exact ⟨dx, vs, hp.trans e1, hd _ e2, r.ext0 e⟩
  | ldct kvs => obtain ⟨od, vs, e1, r⟩ := h; exact ⟨od, vs, hp.trans e1, r.ext0 e⟩
  | tdct l kvs =>
    obtain ⟨es, ep, xs, e1, e2, e3, e4, r⟩ := h
    exact ⟨es, ep, xs, by rw [hp]; exact e1, e2, e3, e4, r.ext0 e⟩
theorem RO.ext {φ1 : List Addr} {H1 : Hp} (h : RO K φ H p x) (e : Ext K φ H φ1 H1) (hp : H1 p = H p) (hd : ∀ q, H q = some (.own p) → H1 q = some (.own p)) : RO K φ1 H1 p x := h.ext0 e.e0 hp hd
/-- all tracked objects stay (H grows) -/
theorem RH.grow (h : RH K φ H S) {H1 : Hp} (g : ∀ b u, H b = some u → H1 b = some u) : RH K φ H1 S := by
  have e : Ext K φ H φ H1 := ⟨List.prefix_refl _, fun p xs q => by
    rcases q with (q | ⟨ob, q⟩) | q
    · exact .inl (.inl (g _ _ q))
    · exact .inl (.inr ⟨ob, g _ _ q⟩)
    · exact .inr q, fun p xs q => by
    rcases q with ⟨ob, q⟩ | q
    · exact .inl ⟨ob, g _ _ q⟩
    · exact .inr q, fun p vs q => g _ _ q, fun p o u q => g _ _ q⟩
  refine ⟨h.len, h.nd, fun i x p e1 e2 => ?_⟩
  have r := h.at_ i x p e1 e2
  cases q : H p with
  | none => exact absurd q r.there
  | some u => exact r.ext e (by rw [g _ _ q, q]) fun b z => g _ _ z
theorem grow_new (h : H p = none) : ∀ b u, H b = some u → upd H p o b = some u := fun b u e => by rw [upd_ne (ne_of_none e h)]; exact e
theorem RH.new (h : RH K φ H S) (hn : H p = none) : RH K φ (upd H p o) S := h.grow (grow_new hn)
/-- a new object gets a number -/
theorem RH.alloc (h : RH K φ H S) (hn : H p = none) (r : RO K (φ ++ [p]) (upd H p o) p x) : RH K (φ ++ [p]) (upd H p o) (S ++ [x]) := by
  have e : Ext K φ H (φ ++ [p]) (upd H p o) := Ext.num hn
  refine ⟨by simp [h.len], ?_, fun i y q e1 e2 => ?_⟩
  · rw [List.nodup_append]
    refine ⟨h.nd, by simp, fun a ha b hb => ?_⟩
    simp at hb
    subst hb
    rintro rfl
    obtain ⟨i, hi, e1⟩ := List.getElem_of_mem ha
    have hi' : i < S.length := h.len ▸ hi
    exact (h.at_ i S[i] a (List.getElem?_eq_getElem hi') (by rw [List.getElem?_eq_getElem hi, e1])).there hn
  · by_cases hi : i < S.length
    · rw [List.getElem?_append_left hi] at e1
      rw [List.getElem?_append_left (h.len ▸ hi)] at e2
      have r := h.at_ i y q e1 e2
      cases z : H q with
      | none => exact absurd z r.there
      | some u => exact r.ext e (by rw [upd_ne (ne_of_none z hn), z]) fun b hb => by rw [upd_ne (ne_of_none hb hn)]; exact hb
    · rw [List.getElem?_append_right (by omega)] at e1
      rw [List.getElem?_append_right (by have := h.len; omega)] at e2
      have hi2 : i - S.length = 0 := by
        have := (List.getElem?_eq_some_iff.mp e1).1
        simp at this
        omega
      rw [hi2] at e1
      rw [show i - φ.length = 0 by have := h.len; omega] at e2
      simp at e1 e2
      subst e1 e2
      exact r
/-- the object of a number is changed -/
theorem RH.set (h : RH K φ H S) {n : Nat} (hp : φ[n]? = some p) (m : Mu (H p)) (no : ∀ q, H p ≠ some (.own q)) (r : RO K φ (upd H p o) p x) : RH K φ (upd H p o) (S.set n x) := by
  refine ⟨by simp [h.len], h.nd, fun i y q e1 e2 => ?_⟩
  by_cases hi : i = n
  · subst hi
    have hl : i < S.length := h.len ▸ (List.getElem?_eq_some_iff.mp e2).1
    rw [List.getElem?_set_self hl] at e1
    cases e1
    rw [hp] at e2
    cases e2
    exact r
  · rw [List.getElem?_set_ne (Ne.symm hi)] at e1
    have r := h.at_ i y q e1 e2
    have hq : q ≠ p := fun z => by
      subst z
      have h1 := (List.getElem?_eq_some_iff.mp e2)
      have h2 := (List.getElem?_eq_some_iff.mp hp)
      obtain ⟨l1, z1⟩ := h1
      obtain ⟨l2, z2⟩ := h2
      exact hi ((List.getElem_inj h.nd).mp (z1.trans z2.symm))
    exact r.ext (Ext.wr m) (upd_ne hq) fun b hb => by
      have nb : b ≠ p := fun z => no q (by rw [← z]; exact hb)
      rw [upd_ne nb]
      exact hb
end

/-! ### the readings -/
/-- what is wanted at an expression's end -/
def Fin (K : KW) (W : WX) (φ : List Addr) (H : Hp) (σ : St) (r : Res D) (Q : VK) : Prop := match r with
  | .ok d S' => ∀ φ' H' v, Ext K φ H φ' H' → RH K φ' H' S' → RV K φ' H' d v → Q v H'
  | .exc x S' => ∀ φ' H' cv dx, Ext K φ H φ' H' → RH K φ' H' S' → RX K φ' H' x cv dx → W cv dx σ H'
  | .stuck => False
def tF (K : KW) (W : WX) (F : Env → Store → Res D) : TE := fun σ H Q => ∃ φ ρ S, RH K φ H S ∧ RL K φ H σ ρ ∧ Fin K W φ H σ (F ρ S) Q
/-- a test -/
def FinT (K : KW) (W : WX) (φ : List Addr) (H : Hp) (σ : St) (r : Res Bool) (Q : Bool → Hp → Prop) : Prop := match r with
  | .ok b S' => ∀ φ' H', Ext K φ H φ' H' → RH K φ' H' S' → Q b H'
  | .exc x S' => ∀ φ' H' cv dx, Ext K φ H φ' H' → RH K φ' H' S' → RX K φ' H' x cv dx → W cv dx σ H'
  | .stuck => False
def tFT (K : KW) (W : WX) (F : Env → Store → Res Bool) : TT := fun σ H Q => ∃ φ ρ S, RH K φ H S ∧ RL K φ H σ ρ ∧ FinT K W φ H σ (F ρ S) Q
/-- an argument list -/
def FinA (K : KW) (W : WX) (φ : List Addr) (H : Hp) (σ : St) (r : Res (List D)) (Q : List V → Hp → Prop) : Prop := match r with
  | .ok ds S' => ∀ φ' H' vs, Ext K φ H φ' H' → RH K φ' H' S' → RVs K φ' H' ds vs → Q vs H'
  | .exc x S' => ∀ φ' H' cv dx, Ext K φ H φ' H' → RH K φ' H' S' → RX K φ' H' x cv dx → W cv dx σ H'
  | .stuck => False
def tFA (K : KW) (W : WX) (F : Env → Store → Res (List D)) : TA := fun σ H Q => ∃ φ ρ S, RH K φ H S ∧ RL K φ H σ ρ ∧ FinA K W φ H σ (F ρ S) Q
/-- a statement's end -/
inductive Out where
  | nx (ρ : Env) | ret (d : D) | bk (ρ : Env) | ct (ρ : Env)
  /-- an exception in a try's body, and the slots at that time -/
  | xc (x : Xc) (ρ : Env)
def FinS (K : KW) (W : WX) (φ : List Addr) (H : Hp) (r : Res Out) (E : Ends) : Prop := match r with
  | .ok (.nx ρ) S' => ∀ φ' H' σ', Ext K φ H φ' H' → RH K φ' H' S' → RL K φ' H' σ' ρ → E.nx σ' H'
  | .ok (.bk ρ) S' => ∀ φ' H' σ', Ext K φ H φ' H' → RH K φ' H' S' → RL K φ' H' σ' ρ → E.bk σ' H'
  | .ok (.ct ρ) S' => ∀ φ' H' σ', Ext K φ H φ' H' → RH K φ' H' S' → RL K φ' H' σ' ρ → E.ct σ' H'
  | .ok (.ret d) S' => ∀ φ' H' v, Ext K φ H φ' H' → RH K φ' H' S' → RV K φ' H' d v → E.rt v H'
  | .ok (.xc x ρ) S' => ∀ φ' H' cv dx σ', Ext K φ H φ' H' → RH K φ' H' S' → RX K φ' H' x cv dx → RL K φ' H' σ' ρ → W cv dx σ' H'
  | .exc x S' => ∀ φ' H' cv dx σ', Ext K φ H φ' H' → RH K φ' H' S' → RX K φ' H' x cv dx → W cv dx σ' H'
  | .stuck => False
def tFS (K : KW) (W : WX) (F : Env → Store → Res Out) : TS := fun E σ H => ∃ φ ρ S, RH K φ H S ∧ RL K φ H σ ρ ∧ FinS K W φ H (F ρ S) E

abbrev EF := Env → Store → Res D
abbrev TF := Env → Store → Res Bool
abbrev AF := Env → Store → Res (List D)
abbrev SF := Env → Store → Res Out
/-! the judgements -/
def AE (X : Cx) (W : WX) (e : Expr) (F : EF) : Prop := PE X e (tF X.kw W F)
def AT (X : Cx) (W : WX) (e : Expr) (F : TF) : Prop := PT X e (tFT X.kw W F)
def AW (X : Cx) (W : WX) (e : Expr) (F : TF) : Prop := PW X e (tFT X.kw W F)
def AA (X : Cx) (W : WX) (es : List Expr) (F : AF) : Prop := PA X es (tFA X.kw W F)
def AS (X : Cx) (W : WX) (st : Stmt) (F : SF) : Prop := PS X st (tFS X.kw W F)
def ASs (X : Cx) (W : WX) (st : List Stmt) (F : SF) : Prop := PSs X st (tFS X.kw W F)

section
variable {X : Cx} {e : Expr} {es : List Expr} {st : Stmt} {sts : List Stmt}
theorem pe_mono {t t' : TE} (h : PE X e t) (i : ∀ σ H Q, t' σ H Q → t σ H Q) : PE X e t' := ⟨fun pins s σ H Q I q => h.run pins s σ H Q I (i σ H Q q)⟩
theorem pt_mono {t t' : TT} (h : PT X e t) (i : ∀ σ H Q, t' σ H Q → t σ H Q) : PT X e t' := ⟨fun pins s σ H Q I q => h.run pins s σ H Q I (i σ H Q q)⟩
theorem pw_mono {t t' : TT} (h : PW X e t) (i : ∀ σ H Q, t' σ H Q → t σ H Q) : PW X e t' := ⟨fun wh pins s σ H Q I q => h.run wh pins s σ H Q I (i σ H Q q)⟩
theorem pa_mono {t t' : TA} (h : PA X es t) (i : ∀ σ H Q, t' σ H Q → t σ H Q) : PA X es t' := ⟨fun pos pins s σ H Q I q => h.run pos pins s σ H Q I (i σ H Q q)⟩
theorem ps_mono {t t' : TS} (h : PS X st t) (i : ∀ D σ H, t' D σ H → t D σ H) : PS X st t' := ⟨fun pins s σ H D I q => h.run pins s σ H D I (i D σ H q)⟩
theorem pss_mono {t t' : TS} (h : PSs X sts t) (i : ∀ D σ H, t' D σ H → t D σ H) : PSs X sts t' := ⟨fun pins s σ H D I q => h.run pins s σ H D I (i D σ H q)⟩
end

section
variable {K : KW} {W : WX} {φ φ1 : List Addr} {H H1 : Hp} {σ : St}
theorem Fin.ext {r : Res D} {Q : VK} (h : Fin K W φ H σ r Q) (e : Ext K φ H φ1 H1) : Fin K W φ1 H1 σ r Q := by
  cases r with
  | ok d S => exact fun φ' H' v x => h φ' H' v (e.trans x)
  | exc x S => exact fun φ' H' cv dx x => h φ' H' cv dx (e.trans x)
  | stuck => exact h
theorem FinT.ext {r : Res Bool} {Q : Bool → Hp → Prop} (h : FinT K W φ H σ r Q) (e : Ext K φ H φ1 H1) : FinT K W φ1 H1 σ r Q := by
  cases r with
  | ok d S => exact fun φ' H' x => h φ' H' (e.trans x)
  | exc x S => exact fun φ' H' cv dx x => h φ' H' cv dx (e.trans x)
  | stuck => exact h
theorem FinA.ext {r : Res (List D)} {Q : List V → Hp → Prop} (h : FinA K W φ H σ r Q) (e : Ext K φ H φ1 H1) : FinA K W φ1 H1 σ r Q := by
  cases r with
  | ok d S => exact fun φ' H' v x => h φ' H' v (e.trans x)
  | exc x S => exact fun φ' H' cv dx x => h φ' H' cv dx (e.trans x)
  | stuck => exact h
theorem FinS.ext {r : Res Out} {E : Ends} (h : FinS K W φ H r E) (e : Ext K φ H φ1 H1) : FinS K W φ1 H1 r E := by
  cases r with
  | ok o S =>
    cases o with
    | nx ρ => exact fun φ' H' σ' x => h φ' H' σ' (e.trans x)
    | ret d => exact fun φ' H' v x => h φ' H' v (e.trans x)
    | bk ρ => exact fun φ' H' σ' x => h φ' H' σ' (e.trans x)
    | ct ρ => exact fun φ' H' σ' x => h φ' H' σ' (e.trans x)
    | xc y ρ => exact fun φ' H' cv dx σ' x => h φ' H' cv dx σ' (e.trans x)
  | exc x S => exact fun φ' H' cv dx σ' x => h φ' H' cv dx σ' (e.trans x)
  | stuck => exact h
theorem Fin.imp {r : Res D} {Q Q' : VK} (h : Fin K W φ H σ r Q) (i : ∀ v H', Q v H' → Q' v H') : Fin K W φ H σ r Q' := by
  cases r with
  | ok d S => exact fun φ' H' v x y z => i _ _ (h φ' H' v x y z)
  | exc x S => exact h
  | stuck => exact h
theorem FinT.imp {r : Res Bool} {Q Q' : Bool → Hp → Prop} (h : FinT K W φ H σ r Q) (i : ∀ v H', Q v H' → Q' v H') : FinT K W φ H σ r Q' := by
  cases r with
  | ok d S => exact fun φ' H' x y => i _ _ (h φ' H' x y)
  | exc x S => exact h
  | stuck => exact h
theorem FinA.imp {r : Res (List D)} {Q Q' : List V → Hp → Prop} (h : FinA K W φ H σ r Q) (i : ∀ v H', Q v H' → Q' v H') : FinA K W φ H σ r Q' := by
  cases r with
  | ok d S => exact fun φ' H' v x y z => i _ _ (h φ' H' v x y z)
  | exc x S => exact h
  | stuck => exact h
/-- what is known behind a part -/
def Aft (K : KW) (φ : List Addr) (H : Hp) (v : V) (H1 : Hp) (G : List Addr → D → Store → Prop) : Prop := ∃ φ1 S1 d, Ext K φ H φ1 H1 ∧ RH K φ1 H1 S1 ∧ RV K φ1 H1 d v ∧ G φ1 d S1
theorem Fin.bind {r : Res D} {g : D → Store → Res D} {Q : VK} (h : Fin K W φ H σ (r.bind g) Q) : Fin K W φ H σ r fun v H1 => Aft K φ H v H1 fun φ1 d S1 => Fin K W φ1 H1 σ (g d S1) Q := by
  cases r with
  | ok d S => exact fun φ' H' v x y z => ⟨φ', S, d, x, y, z, h.ext x⟩
  | exc x S => exact h
  | stuck => exact h
theorem Fin.bindT {r : Res D} {g : D → Store → Res Bool} {Q : Bool → Hp → Prop} (h : FinT K W φ H σ (r.bind g) Q) : Fin K W φ H σ r fun v H1 => Aft K φ H v H1 fun φ1 d S1 => FinT K W φ1 H1 σ (g d S1) Q := by
  cases r with
  | ok d S => exact fun φ' H' v x y z => ⟨φ', S, d, x, y, z, h.ext x⟩
  | exc x S => exact h
  | stuck => exact h
theorem Fin.bindA {r : Res D} {g : D → Store → Res (List D)} {Q : List V → Hp → Prop} (h : FinA K W φ H σ (r.bind g) Q) : Fin K W φ H σ r fun v H1 => Aft K φ H v H1 fun φ1 d S1 => FinA K W φ1 H1 σ (g d S1) Q := by
  cases r with
  | ok d S => exact fun φ' H' v x y z => ⟨φ', S, d, x, y, z, h.ext x⟩
  | exc x S => exact h
  | stuck => exact h
def AftA (K : KW) (φ : List Addr) (H : Hp) (vs : List V) (H1 : Hp) (G : List Addr → List D → Store → Prop) : Prop := ∃ φ1 S1 ds, Ext K φ H φ1 H1 ∧ RH K φ1 H1 S1 ∧ RVs K φ1 H1 ds vs ∧ G φ1 ds S1
theorem FinA.bind {r : Res (List D)} {g : List D → Store → Res D} {Q : VK} (h : Fin K W φ H σ (r.bind g) Q) : FinA K W φ H σ r fun v H1 => AftA K φ H v H1 fun φ1 d S1 => Fin K W φ1 H1 σ (g d S1) Q := by
  cases r with
  | ok d S => exact fun φ' H' v x y z => ⟨φ', S, d, x, y, z, h.ext x⟩
  | exc x S => exact h
  | stuck => exact h
theorem FinA.bindA {r : Res (List D)} {g : List D → Store → Res (List D)} {Q : List V → Hp → Prop} (h : FinA K W φ H σ (r.bind g) Q) : FinA K W φ H σ r fun v H1 => AftA K φ H v H1 fun φ1 d S1 => FinA K W φ1 H1 σ (g d S1) Q := by
  cases r with
  | ok d S => exact fun φ' H' v x y z => ⟨φ', S, d, x, y, z, h.ext x⟩
  | exc x S => exact h
  | stuck => exact h
def AftT (K : KW) (φ : List Addr) (H : Hp) (H1 : Hp) (G : List Addr → Store → Prop) : Prop := ∃ φ1 S1, Ext K φ H φ1 H1 ∧ RH K φ1 H1 S1 ∧ G φ1 S1
theorem FinT.bind {r : Res Bool} {g : Bool → Store → Res D} {Q : VK} (h : Fin K W φ H σ (r.bind g) Q) : FinT K W φ H σ r fun b H1 => AftT K φ H H1 fun φ1 S1 => Fin K W φ1 H1 σ (g b S1) Q := by
  cases r with
  | ok d S => exact fun φ' H' x y => ⟨φ', S, x, y, h.ext x⟩
  | exc x S => exact h
  | stuck => exact h
theorem FinT.bindT {r : Res Bool} {g : Bool → Store → Res Bool} {Q : Bool → Hp → Prop} (h : FinT K W φ H σ (r.bind g) Q) : FinT K W φ H σ r fun b H1 => AftT K φ H H1 fun φ1 S1 => FinT K W φ1 H1 σ (g b S1) Q := by
  cases r with
  | ok d S => exact fun φ' H' x y => ⟨φ', S, x, y, h.ext x⟩
  | exc x S => exact h
  | stuck => exact h
/-- a statement that begins with an expression, with a test -/
theorem Fin.bindS {r : Res D} {g : D → Store → Res Out} {E : Ends} (hW : True) (h : FinS K W φ H (r.bind g) E) : Fin K W φ H σ r fun v H1 => Aft K φ H v H1 fun φ1 d S1 => FinS K W φ1 H1 (g d S1) E := by
  cases r with
  | ok d S => exact fun φ' H' v x y z => ⟨φ', S, d, x, y, z, h.ext x⟩
  | exc x S => exact fun φ' H' cv dx => h φ' H' cv dx σ
  | stuck => exact h
theorem FinT.bindS {r : Res Bool} {g : Bool → Store → Res Out} {E : Ends} (h : FinS K W φ H (r.bind g) E) : FinT K W φ H σ r fun b H1 => AftT K φ H H1 fun φ1 S1 => FinS K W φ1 H1 (g b S1) E := by
  cases r with
  | ok d S => exact fun φ' H' x y => ⟨φ', S, x, y, h.ext x⟩
  | exc x S => exact fun φ' H' cv dx => h φ' H' cv dx σ
  | stuck => exact h
theorem Fin.ok_of {d : D} {S : Store} {Q : VK} {v : V} (h : Fin K W φ H σ (.ok d S) Q) (rh : RH K φ H S) (r : RV K φ H d v) : Q v H := h φ H v .refl rh r
end
end Al

set_option Elab.async false
set_option linter.all false
set_option maxRecDepth 100000
set_option maxHeartbeats 1000000
/-! Al: expressions. -/
namespace Al
open PySem PySem.Spec PyProof.Rows L2
abbrev lim : Nat := 16777216
theorem lim_eq : sizeLine = lim := sizeLine_eq

/-! ### names and constants -/
def eVar (i : Nat) : EF := fun ρ S => match ρ[i]? with
  | some (some d) => .ok d S
  | _ => .stuck
def eC (d : D) : EF := fun _ S => .ok d S
section
variable {X : Cx} {W : WX}
theorem rv_non {K : KW} {φ H} : RV K φ H .non .non := by unfold RV; rfl
theorem rv_bl {K : KW} {φ H} {b : Bool} : RV K φ H (.bl b) (.bl b) := by unfold RV; rfl
theorem rv_int {K : KW} {φ H} {i : Int} : RV K φ H (.int i) (.int i) := by unfold RV; rfl
theorem rv_str {K : KW} {φ H} {x : List Nat} : RV K φ H (.str x) (.str (toS x)) := by unfold RV; rfl
theorem rv_tup {K : KW} {φ H} {p : Addr} {ds : List D} {vs : List V} (h : SqT K H p vs) (r : RVs K φ H ds vs) : RV K φ H (.tup ds) (.ref p) := by unfold RV; exact ⟨p, vs, rfl, h, r⟩
theorem rv_ref {K : KW} {H} {φ : List Addr} {n : Nat} {p : Addr} (h : φ[n]? = some p) : RV K φ H (.ref n) (.ref p) := by unfold RV; exact ⟨p, rfl, h⟩
theorem rv_scl {K : KW} {φ H} {p : Addr} {ds : List D} {vs : List V} (h : FzL K H p vs) (r : RVs K φ H ds vs) : RV K φ H (.scl ds) (.ref p) := by unfold RV; exact ⟨p, vs, rfl, h, r⟩
theorem RV.scl_ {K : KW} {φ H} {ds : List D} {v : V} (h : RV K φ H (.scl ds) v) : ∃ p vs, v = .ref p ∧ FzL K H p vs ∧ RVs K φ H ds vs := by unfold RV at h; exact h
theorem RV.non_ {K : KW} {φ H} {v : V} (h : RV K φ H .non v) : v = .non := by unfold RV at h; exact h
theorem RV.bl_ {K : KW} {φ H} {b : Bool} {v : V} (h : RV K φ H (.bl b) v) : v = .bl b := by unfold RV at h; exact h
theorem RV.int_ {K : KW} {φ H} {i : Int} {v : V} (h : RV K φ H (.int i) v) : v = .int i := by unfold RV at h; exact h
theorem RV.str_ {K : KW} {φ H} {x : List Nat} {v : V} (h : RV K φ H (.str x) v) : v = .str (toS x) := by unfold RV at h; exact h
theorem RV.tup_ {K : KW} {φ H} {ds : List D} {v : V} (h : RV K φ H (.tup ds) v) : ∃ p vs, v = .ref p ∧ SqT K H p vs ∧ RVs K φ H ds vs := by unfold RV at h; exact h
theorem RV.ref_ {K : KW} {H} {φ : List Addr} {n : Nat} {v : V} (h : RV K φ H (.ref n) v) : ∃ p, v = .ref p ∧ φ[n]? = some p := by unfold RV at h; exact h
/-- what a number stands for -/
theorem RH.obj {K : KW} {φ : List Addr} {H : Hp} {S : Store} (h : RH K φ H S) {n : Nat} {o : O} {v : V} (e : S[n]? = some o) (r : RV K φ H (.ref n) v) : ∃ p, v = .ref p ∧ φ[n]? = some p ∧ RO K φ H p o := by
  obtain ⟨p, e1, e2⟩ := r.ref_
  exact ⟨p, e1, e2, h.at_ n o p e e2⟩

theorem ae_var (i : Nat) {x : Str} {pos : Pos} (hN : X.N[i]? = some x := by rfl) (hv : Vis X.env.scope x := by first | exact Or.inl rfl | exact Or.inr (Or.inl rfl) | exact Or.inr (Or.inr rfl)) (hd : (x == ("__debug__" : Str)) = false := by decide)
    (hcd : (x == ("__classdict__" : Str)) = false := by decide) : AE X W (.Name x pos) (eVar i) := by
  refine pe_mono (pe_var hN hv hd hcd) fun σ H Q ⟨φ, ρ, S, rh, rl, f⟩ => ?_
  unfold eVar at f
  split at f
  · rename_i d e
    obtain ⟨v, e1, r⟩ := rl.2 i d e
    exact ⟨v, e1, f.ok_of rh r⟩
  · exact f.elim
theorem ae_int {i : Int} {j pos} : AE X W (.Constant (.int i) j pos) (eC (.int i)) := pe_mono pe_int fun σ H Q ⟨φ, ρ, S, rh, rl, f⟩ => Fin.ok_of f rh rv_int
theorem ae_bl {b : Bool} {j pos} : AE X W (.Constant (.bool b) j pos) (eC (.bl b)) := pe_mono pe_bl fun σ H Q ⟨φ, ρ, S, rh, rl, f⟩ => Fin.ok_of f rh rv_bl
theorem ae_non {j pos} : AE X W (.Constant .none j pos) (eC .non) := pe_mono pe_non fun σ H Q ⟨φ, ρ, S, rh, rl, f⟩ => Fin.ok_of f rh rv_non
theorem ae_str (y : List Nat) {x : Str} {j pos} (h : x = toS y := by rfl) : AE X W (.Constant (.str x) j pos) (eC (.str y)) := by
  subst h
  exact pe_mono pe_str fun σ H Q ⟨φ, ρ, S, rh, rl, f⟩ => Fin.ok_of f rh rv_str
/-- a constant of the module -/
theorem ae_glob (d : D) {x : Str} {v : V} {u : Value} {pos : Pos} (hm : X.mg x = some u) (r : RelV v u) (rv : ∀ φ H, RV X.kw φ H d v) (hg : Gl X x := by rfl) (hd : (x == ("__debug__" : Str)) = false := by decide) : AE X W (.Name x pos) (eC d) :=
  pe_mono (pe_glob hg hm r hd) fun σ H Q ⟨φ, ρ, S, rh, rl, f⟩ => Fin.ok_of f rh (rv φ H)

/-! ### two-place operations -/
abbrev F2 := D → D → Store → Option (D × Store)
def OpA (X : Cx) (sem : Value → Value → Sem Value) (f : F2) : Prop :=
  OpR X sem (fun x y H Q => ∃ φ S a b d S', RH X.kw φ H S ∧ RV X.kw φ H a x ∧ RV X.kw φ H b y ∧ f a b S = some (d, S') ∧ ∀ φ' H' v, Ext X.kw φ H φ' H' → RH X.kw φ' H' S' → RV X.kw φ' H' d v → Q v H')
def eOp (f : F2) (a b : EF) : EF := fun ρ S => (a ρ S).bind fun x S1 => (b ρ S1).bind fun y S2 => .of (f x y S2)
theorem OpR.mono {sem : Value → Value → Sem Value} {r r' : R2} (h : OpR X sem r) (i : ∀ x y H Q, r' x y H Q → r x y H Q) : OpR X sem r' :=
  fun pins s σ H x y v u Q I rx ry q => h pins s σ H x y v u Q I rx ry (i x y H Q q)
theorem fin_of {K : KW} {φ : List Addr} {H : Hp} {σ : St} {o : Option (D × Store)} {Q : VK} (f : Fin K W φ H σ (.of o) Q) : ∃ d S', o = some (d, S') ∧ ∀ φ' H' v, Ext K φ H φ' H' → RH K φ' H' S' → RV K φ' H' d v → Q v H' := by
  cases o with
  | none => exact f.elim
  | some p => exact ⟨p.1, p.2, rfl, f⟩
theorem two_parts {a b : EF} {g : D → D → Store → Res D} {Q : VK} {K : KW} {σ : St} {H : Hp} (h : tF K W (fun ρ S => (a ρ S).bind fun x S1 => (b ρ S1).bind fun y S2 => g x y S2) σ H Q) :
    tF K W a σ H fun x H1 => tF K W b σ H1 fun y H2 => ∃ φ S dx dy, RH K φ H2 S ∧ RV K φ H2 dx x ∧ RV K φ H2 dy y ∧ Fin K W φ H2 σ (g dx dy S) Q := by
  obtain ⟨φ, ρ, S, rh, rl, f⟩ := h
  refine ⟨φ, ρ, S, rh, rl, f.bind.imp ?_⟩
  rintro v H1 ⟨φ1, S1, d1, e1, rh1, rv1, f1⟩
  refine ⟨φ1, ρ, S1, rh1, rl.ext e1, f1.bind.imp ?_⟩
  rintro y H2 ⟨φ2, S2, d2, e2, rh2, rv2, f2⟩
  exact ⟨φ2, S2, d1, d2, rh2, rv1.ext e2, rv2, f2⟩
theorem tF.imp {K : KW} {F : EF} {σ : St} {H : Hp} {Q Q' : VK} (h : tF K W F σ H Q) (i : ∀ v H', Q v H' → Q' v H') : tF K W F σ H Q' := by
  obtain ⟨φ, ρ, S, rh, rl, f⟩ := h
  exact ⟨φ, ρ, S, rh, rl, f.imp i⟩
theorem op_run {K : KW} {f : F2} {a b : EF} {σ : St} {H : Hp} {Q : VK} (h : tF K W (eOp f a b) σ H Q) :
    tOp (fun x y H Q => ∃ φ S a b d S', RH K φ H S ∧ RV K φ H a x ∧ RV K φ H b y ∧ f a b S = some (d, S') ∧ ∀ φ' H' v, Ext K φ H φ' H' → RH K φ' H' S' → RV K φ' H' d v → Q v H') (tF K W a) (tF K W b) σ H Q := by
  refine (two_parts h).imp fun x H1 h1 => h1.imp fun y H2 ⟨φ, S, dx, dy, rh, rx, ry, fi⟩ => ?_
  obtain ⟨d, S', e, k⟩ := fin_of fi
  exact ⟨φ, S, dx, dy, d, S', rh, rx, ry, e, k⟩
variable {a b c : Expr} {Fa Fb Fc : EF} {pos : Pos}
theorem ae_op {op : Operator} {f : F2} (ho : OpA X (binaryOp op) f) (ha : AE X W a Fa) (hb : AE X W b Fb) : AE X W (.BinOp a op b pos) (eOp f Fa Fb) :=
  pe_mono (pe_op ho ha hb) fun σ H Q h => op_run h
theorem ae_cmp {op : CmpOp} {f : F2} (ho : OpA X (compareOp op) f) (ha : AE X W a Fa) (hb : AE X W b Fb) (hm : behindInMarks op b = false := by first | exact nomark _ | rfl) : AE X W (.Compare a [op] [b] pos) (eOp f Fa Fb) :=
  pe_mono (pe_cmpR ho ha hb hm) fun σ H Q h => op_run h
/-- a bool of a value -/
def asB (d : D) (S : Store) : Res Bool := match d with
  | .bl b => .ok b S
  | _ => .stuck
def tOf (F : EF) : TF := fun ρ S => (F ρ S).bind asB
theorem test_run {K : KW} {F : EF} {σ : St} {H : Hp} {Q : Bool → Hp → Prop} (h : tFT K W (tOf F) σ H Q) : tF K W F σ H fun x H' => ∃ k, x = .bl k ∧ Q k H' := by
  obtain ⟨φ, ρ, S, rh, rl, f⟩ := h
  refine ⟨φ, ρ, S, rh, rl, (Fin.bindT f).imp ?_⟩
  rintro v H1 ⟨φ1, S1, d, e1, rh1, rv1, f1⟩
  cases d with
  | bl b => exact ⟨b, rv1.bl_, f1 φ1 H1 .refl rh1⟩
  | _ => exact f1.elim
theorem at_cmp {op : CmpOp} {f : F2} (ho : OpA X (compareOp op) f) (ha : AE X W a Fa) (hb : AE X W b Fb) (hm : behindInMarks op b = false := by first | exact nomark _ | rfl) : AT X W (.Compare a [op] [b] pos) (tOf (eOp f Fa Fb)) :=
  pt_mono (pt_cmpR ho ha hb hm) fun σ H Q h => op_run (test_run h)
theorem at_val (ha : AE X W a Fa) (he : ∀ whole, isTrue a X.env whole = (do let v ← whole; standAt a.pos; holding [v] (truthy v)) := by intro _; rfl) : AT X W a (tOf Fa) :=
  pt_mono (pt_val ha he) fun σ H Q h => test_run h
/-! chains -/
def eChain (f g : F2) (a b c : EF) : EF := fun ρ S => (a ρ S).bind fun x S1 => (b ρ S1).bind fun y S2 => (Res.of (f x y S2)).bind fun z S3 => match z with
  | .bl true => (c ρ S3).bind fun w S4 => .of (g y w S4)
  | .bl false => .ok (.bl false) S3
  | _ => .stuck
theorem chain_run {K : KW} {f g : F2} {a b c : EF} {σ : St} {H : Hp} {Q : VK} (h : tF K W (eChain f g a b c) σ H Q) :
    tChain (fun x y H Q => ∃ φ S a b d S', RH K φ H S ∧ RV K φ H a x ∧ RV K φ H b y ∧ f a b S = some (d, S') ∧ ∀ φ' H' v, Ext K φ H φ' H' → RH K φ' H' S' → RV K φ' H' d v → Q v H')
      (fun x y H Q => ∃ φ S a b d S', RH K φ H S ∧ RV K φ H a x ∧ RV K φ H b y ∧ g a b S = some (d, S') ∧ ∀ φ' H' v, Ext K φ H φ' H' → RH K φ' H' S' → RV K φ' H' d v → Q v H') (tF K W a) (tF K W b) (tF K W c) σ H Q := by
  obtain ⟨φ, ρ, S, rh, rl, fi⟩ := h
  refine ⟨φ, ρ, S, rh, rl, fi.bind.imp ?_⟩
  rintro v H1 ⟨φ1, S1, d1, e1, rh1, rv1, f1⟩
  refine ⟨φ1, ρ, S1, rh1, rl.ext e1, f1.bind.imp ?_⟩
  rintro y H2 ⟨φ2, S2, d2, e2, rh2, rv2, f2⟩
  obtain ⟨d3, S3, e3, k3⟩ := fin_of f2.bind
  refine ⟨φ2, S2, d1, d2, d3, S3, rh2, rv1.ext e2, rv2, e3, fun φ3 H3 z x3 rh3 rv3 => ?_⟩
  rw [e3] at f2
  cases d3 with
  | bl k =>
    refine ⟨k, rv3.bl_, ?_⟩
    cases k with
    | true =>
      rw [if_pos rfl]
      have f2' : Fin K W φ2 H2 σ ((c ρ S3).bind fun w S4 => .of (g d2 w S4)) Q := f2
      refine ⟨φ3, ρ, S3, rh3, (rl.ext (e1.trans e2)).ext x3, ((f2'.ext x3).bind).imp ?_⟩
      rintro w H4 ⟨φ4, S4, d4, e4, rh4, rv4, f4⟩
      obtain ⟨d5, S5, e5, k5⟩ := fin_of f4
      exact ⟨φ4, S4, d2, d4, d5, S5, rh4, (rv2.ext x3).ext e4, rv4, e5, k5⟩
    | false =>
      rw [if_neg Bool.false_ne_true]
      exact f2 φ3 H3 _ x3 rh3 rv_bl
  | _ => exact f2.elim
theorem ae_chain {op op' : CmpOp} {f g : F2} (ho : OpA X (compareOp op) f) (ho' : OpA X (compareOp op') g) (ha : AE X W a Fa) (hb : AE X W b Fb) (hc : AE X W c Fc)
    (hm : lastMarks [op, op'] [b, c] = false := by with_unfolding_all rfl) : AE X W (.Compare a [op, op'] [b, c] pos) (eChain f g Fa Fb Fc) :=
  pe_mono (pe_chain ho ho' ha hb hc hm) fun σ H Q h => chain_run h
theorem at_chain {op op' : CmpOp} {f g : F2} (ho : OpA X (compareOp op) f) (ho' : OpA X (compareOp op') g) (ha : AE X W a Fa) (hb : AE X W b Fb) (hc : AE X W c Fc)
    (hm : lastMarks [op, op'] [b, c] = false := by with_unfolding_all rfl) : AT X W (.Compare a [op, op'] [b, c] pos) (tOf (eChain f g Fa Fb Fc)) :=
  pt_mono (pt_chain ho ho' ha hb hc hm) fun σ H Q h => chain_run (test_run h)
end

/-! ### and, or, not, if -/
def tAndF (t u : TF) : TF := fun ρ S => (t ρ S).bind fun b S1 => if b = true then u ρ S1 else .ok false S1
def tOrF (t u : TF) : TF := fun ρ S => (t ρ S).bind fun b S1 => if b = true then .ok true S1 else u ρ S1
def tNotF (t : TF) : TF := fun ρ S => (t ρ S).bind fun b S1 => .ok (!b) S1
def eAnd (a b : EF) : EF := fun ρ S => (a ρ S).bind fun x S1 => match x with
  | .bl true => b ρ S1
  | .bl false => .ok (.bl false) S1
  | _ => .stuck
def eOr (a b : EF) : EF := fun ρ S => (a ρ S).bind fun x S1 => match x with
  | .bl true => .ok (.bl true) S1
  | .bl false => b ρ S1
  | _ => .stuck
def eNot (a : EF) : EF := fun ρ S => (a ρ S).bind fun x S1 => match x with
  | .bl b => .ok (.bl (!b)) S1
  | _ => .stuck
def eIf (t : TF) (a b : EF) : EF := fun ρ S => (t ρ S).bind fun c S1 => if c = true then a ρ S1 else b ρ S1
section
variable {X : Cx} {W : WX} {a b c : Expr} {rest : List Expr} {Ta Tb : TF} {Fa Fb : EF} {pos : Pos}
theorem AW.at (h : AW X W a Ta) : AT X W a Ta := PW.pt h
theorem aw_and1 (ha : AT X W a Ta) : AW X W (.BoolOp .And [a] pos) Ta := pw_and1 ha
theorem aw_or1 (ha : AT X W a Ta) : AW X W (.BoolOp .Or [a] pos) Ta := pw_or1 ha
theorem aw_and (ha : AT X W a Ta) (hb : AW X W (.BoolOp .And (b :: rest) pos) Tb) : AW X W (.BoolOp .And (a :: b :: rest) pos) (tAndF Ta Tb) := by
  refine pw_mono (pw_and ha hb) fun σ H Q ⟨φ, ρ, S, rh, rl, f⟩ => ⟨φ, ρ, S, rh, rl, (FinT.bindT f).imp ?_⟩
  rintro k H1 ⟨φ1, S1, e1, rh1, f1⟩
  cases k with
  | true => rw [if_pos rfl] at f1 ⊢; exact ⟨φ1, ρ, S1, rh1, rl.ext e1, f1⟩
  | false => rw [if_neg Bool.false_ne_true] at f1 ⊢; exact f1 φ1 H1 .refl rh1
theorem aw_or (ha : AT X W a Ta) (hb : AW X W (.BoolOp .Or (b :: rest) pos) Tb) : AW X W (.BoolOp .Or (a :: b :: rest) pos) (tOrF Ta Tb) := by
  refine pw_mono (pw_or ha hb) fun σ H Q ⟨φ, ρ, S, rh, rl, f⟩ => ⟨φ, ρ, S, rh, rl, (FinT.bindT f).imp ?_⟩
  rintro k H1 ⟨φ1, S1, e1, rh1, f1⟩
  cases k with
  | false => rw [if_neg Bool.false_ne_true] at f1 ⊢; exact ⟨φ1, ρ, S1, rh1, rl.ext e1, f1⟩
  | true => rw [if_pos rfl] at f1 ⊢; exact f1 φ1 H1 .refl rh1
theorem at_not (ha : AT X W a Ta) : AT X W (.UnaryOp .Not a pos) (tNotF Ta) := by
  refine pt_mono (pt_not ha) fun σ H Q ⟨φ, ρ, S, rh, rl, f⟩ => ⟨φ, ρ, S, rh, rl, (FinT.bindT f).imp ?_⟩
  rintro k H1 ⟨φ1, S1, e1, rh1, f1⟩
  exact f1 φ1 H1 .refl rh1
theorem ae_and1 (ha : AE X W a Fa) : AE X W (.BoolOp .And [a] pos) Fa := pe_one ha
theorem ae_or1 (ha : AE X W a Fa) : AE X W (.BoolOp .Or [a] pos) Fa := pe_one ha
theorem ae_and (ha : AE X W a Fa) (hb : AE X W (.BoolOp .And (b :: rest) pos) Fb) : AE X W (.BoolOp .And (a :: b :: rest) pos) (eAnd Fa Fb) := by
  refine pe_mono (pe_and ha hb) fun σ H Q ⟨φ, ρ, S, rh, rl, f⟩ => ⟨φ, ρ, S, rh, rl, (Fin.bind f).imp ?_⟩
  rintro v H1 ⟨φ1, S1, d, e1, rh1, rv1, f1⟩
  cases d with
  | bl k =>
    refine ⟨k, rv1.bl_, ?_⟩
    cases k with
    | true => rw [if_pos rfl]; exact ⟨φ1, ρ, S1, rh1, rl.ext e1, f1⟩
    | false => rw [if_neg Bool.false_ne_true]; exact Fin.ok_of f1 rh1 rv_bl
  | _ => exact f1.elim
theorem ae_or (ha : AE X W a Fa) (hb : AE X W (.BoolOp .Or (b :: rest) pos) Fb) : AE X W (.BoolOp .Or (a :: b :: rest) pos) (eOr Fa Fb) := by
  refine pe_mono (pe_or ha hb) fun σ H Q ⟨φ, ρ, S, rh, rl, f⟩ => ⟨φ, ρ, S, rh, rl, (Fin.bind f).imp ?_⟩
  rintro v H1 ⟨φ1, S1, d, e1, rh1, rv1, f1⟩
  cases d with
  | bl k =>
    refine ⟨k, rv1.bl_, ?_⟩
    cases k with
    | true => rw [if_pos rfl]; exact Fin.ok_of f1 rh1 rv_bl
    | false => rw [if_neg Bool.false_ne_true]; exact ⟨φ1, ρ, S1, rh1, rl.ext e1, f1⟩
  | _ => exact f1.elim
theorem ae_not (ha : AE X W a Fa) : AE X W (.UnaryOp .Not a pos) (eNot Fa) := by
  refine pe_mono (pe_not ha) fun σ H Q ⟨φ, ρ, S, rh, rl, f⟩ => ⟨φ, ρ, S, rh, rl, (Fin.bind f).imp ?_⟩
  rintro v H1 ⟨φ1, S1, d, e1, rh1, rv1, f1⟩
  cases d with
  | bl k => exact ⟨k, rv1.bl_, Fin.ok_of f1 rh1 rv_bl⟩
  | _ => exact f1.elim
theorem ae_if {c : Expr} (hc : AT X W c Ta) (ha : AE X W a Fa) (hb : AE X W b Fb) : AE X W (.IfExp c a b pos) (eIf Ta Fa Fb) := by
  refine pe_mono (pe_ifExp hc ha hb) fun σ H Q ⟨φ, ρ, S, rh, rl, f⟩ => ⟨φ, ρ, S, rh, rl, (FinT.bind f).imp ?_⟩
  rintro k H1 ⟨φ1, S1, e1, rh1, f1⟩
  cases k with
  | true => rw [if_pos rfl] at f1 ⊢; exact ⟨φ1, ρ, S1, rh1, rl.ext e1, f1⟩
  | false => rw [if_neg Bool.false_ne_true] at f1 ⊢; exact ⟨φ1, ρ, S1, rh1, rl.ext e1, f1⟩
end

/-! ### argument lists, displays -/
def aNil : AF := fun _ S => .ok [] S
def aCons (a : EF) (r : AF) : AF := fun ρ S => (a ρ S).bind fun x S1 => (r ρ S1).bind fun xs S2 => .ok (x :: xs) S2
def eTup (a : AF) : EF := fun ρ S => (a ρ S).bind fun xs S1 => if xs.length ≤ lim then .ok (.tup xs) S1 else .stuck
def eLst (a : AF) : EF := fun ρ S => (a ρ S).bind fun xs S1 => if xs.length ≤ lim then .ok (.ref S1.length) (S1 ++ [.lst xs]) else .stuck
section
variable {X : Cx} {W : WX} {e : Expr} {es : List Expr} {Fa : EF} {Fr : AF} {pos : Pos}
theorem aa_nil : AA X W [] aNil := pa_mono pa_nil fun σ H Q ⟨φ, ρ, S, rh, rl, f⟩ => f φ H [] .refl rh .nil
theorem aa_cons (ha : AE X W e Fa) (hr : AA X W es Fr) (hs : starEach (e :: es) X.env = (false, eval e X.env) :: starEach es X.env := by rfl) : AA X W (e :: es) (aCons Fa Fr) := by
  refine pa_mono (pa_cons ha hr hs) fun σ H Q ⟨φ, ρ, S, rh, rl, f⟩ => ⟨φ, ρ, S, rh, rl, (Fin.bindA f).imp ?_⟩
  rintro v H1 ⟨φ1, S1, d1, e1, rh1, rv1, f1⟩
  refine ⟨φ1, ρ, S1, rh1, rl.ext e1, f1.bindA.imp ?_⟩
  rintro vs H2 ⟨φ2, S2, ds, e2, rh2, rv2, f2⟩
  exact f2 φ2 H2 _ .refl rh2 (.cons (rv1.ext e2) rv2)
theorem ae_tup {x1} (h : AA X W es Fr) : AE X W (.Tuple es x1 pos) (eTup Fr) := by
  refine pe_mono (pe_tup h) fun σ H Q ⟨φ, ρ, S, rh, rl, f⟩ => ⟨φ, ρ, S, rh, rl, (FinA.bind f).imp ?_⟩
  rintro vs H1 ⟨φ1, S1, ds, e1, rh1, rv1, f1⟩
  split at f1
  · rename_i hl
    refine ⟨by rw [← rv1.length, lim_eq]; exact hl, fun p hp => ?_⟩
    have x := Ext.new (K := X.kw) (φ := φ1) (o := HO.tup vs) hp
    exact f1 φ1 _ _ x (rh1.new hp) (rv_tup (.inl (.inl upd_same)) (rv1.ext x))
  · exact f1.elim
theorem ae_lst (h : AA X W es Fr) : AE X W (.List es pos) (eLst Fr) := by
  refine pe_mono (pe_lst h) fun σ H Q ⟨φ, ρ, S, rh, rl, f⟩ => ⟨φ, ρ, S, rh, rl, (FinA.bind f).imp ?_⟩
  rintro vs H1 ⟨φ1, S1, ds, e1, rh1, rv1, f1⟩
  split at f1
  · rename_i hl
    refine ⟨by rw [← rv1.length, lim_eq]; exact hl, fun p hp => ?_⟩
    have x := Ext.num (K := X.kw) (φ := φ1) (o := HO.lst vs) hp
    have a := rh1.alloc (x := .lst ds) (o := HO.lst vs) hp ⟨vs, upd_same, rv1.ext x⟩
    exact f1 _ _ _ x a (rv_ref (by rw [← rh1.len]; simp))
  · exact f1.elim
end

/-! ### calls of built-ins -/
abbrev FN := List D → Store → Option (D × Store)
def CallA (X : Cx) (f : Value) (g : FN) : Prop :=
  CallR X f (fun xs H Q => ∃ φ S ds d S', RH X.kw φ H S ∧ RVs X.kw φ H ds xs ∧ g ds S = some (d, S') ∧ ∀ φ' H' v, Ext X.kw φ H φ' H' → RH X.kw φ' H' S' → RV X.kw φ' H' d v → Q v H')
def eCall (g : FN) (a : AF) : EF := fun ρ S => (a ρ S).bind fun xs S1 => .of (g xs S1)
section
variable {X : Cx} {W : WX} {e : Expr} {es : List Expr} {Fr : AF} {pos p : Pos} {x : Str}
theorem CallR.mono {f : Value} {r r' : List V → Hp → VK → Prop} (h : CallR X f r) (i : ∀ xs H Q, r' xs H Q → r xs H Q) : CallR X f r' :=
  fun pins s σ H xs us Q I rx q => h pins s σ H xs us Q I rx (i xs H Q q)
theorem call_run {K : KW} {g : FN} {a : AF} {σ : St} {H : Hp} {Q : VK} (h : tF K W (eCall g a) σ H Q) :
    tCB (fun xs H Q => ∃ φ S ds d S', RH K φ H S ∧ RVs K φ H ds xs ∧ g ds S = some (d, S') ∧ ∀ φ' H' v, Ext K φ H φ' H' → RH K φ' H' S' → RV K φ' H' d v → Q v H') (tFA K W a) σ H Q := by
  obtain ⟨φ, ρ, S, rh, rl, f⟩ := h
  refine ⟨φ, ρ, S, rh, rl, (FinA.bind f).imp ?_⟩
  rintro vs H1 ⟨φ1, S1, ds, e1, rh1, rv1, f1⟩
  obtain ⟨d, S', e, k⟩ := fin_of f1
  exact ⟨φ1, S1, ds, d, S', rh1, rv1, e, k⟩
theorem ae_callB {id : String} {g : FN} (hc : CallA X (.builtin id) g) (hm : X.mg x = none) (hv : bootBuiltins x = some (.builtin id)) (ha : AA X W (e :: es) Fr) (hg : Gl X x := by rfl) (hn : x ≠ "__name__" := by decide) (hdb : (x == ("__debug__" : Str)) = false := by decide)
    (he : starEach (e :: es) X.env = (false, eval e X.env) :: starEach es X.env := by rfl) (hpl : (backTo pos (starEach es X.env)).any (·.1) = false := by rfl) : AE X W (.Call (.Name x p) (e :: es) [] pos) (eCall g Fr) :=
  pe_mono (pe_callB hc hg hm hv ha hn hdb he hpl) fun σ H Q h => call_run h
theorem ae_callTy {T : String} {g : FN} (hc : CallA X (.type T) g) (hm : X.mg x = none) (hv : bootBuiltins x = some (.type T)) (ha : AA X W (e :: es) Fr) (hg : Gl X x := by rfl) (hn : x ≠ "__name__" := by decide) (hdb : (x == ("__debug__" : Str)) = false := by decide)
    (he : starEach (e :: es) X.env = (false, eval e X.env) :: starEach es X.env := by rfl) (hpl : (backTo pos (starEach es X.env)).any (·.1) = false := by rfl) : AE X W (.Call (.Name x p) (e :: es) [] pos) (eCall g Fr) :=
  pe_mono (pe_callTy hc hg hm hv ha hn hdb he hpl) fun σ H Q h => call_run h
end
end Al

set_option Elab.async false
set_option linter.all false
set_option maxRecDepth 100000
set_option maxHeartbeats 1000000
/-! Al: operators, built-in functions. -/
namespace Al
open PySem PySem.Spec PyProof.Rows L2
theorem toS_app (a b : List Nat) : toS a ++ toS b = toS (a ++ b) := by
  show Str.append _ _ = _
  unfold Str.append
  simp [toS]
theorem toS_len (a : List Nat) : (toS a).length = a.length := by simp [toS, Str.length]
theorem toS_inj {a b : List Nat} (h : toS a = toS b) : a = b := by
  have := congrArg (fun z : Str => z.cps.toList) h
  simpa [toS] using this
theorem toS_beq (a b : List Nat) : (toS a == toS b) = (a == b) := by
  by_cases h : a = b
  · subst h; simp
  · rw [beq_eq_false_iff_ne.mpr h, beq_eq_false_iff_ne.mpr fun e => h (toS_inj e)]
theorem toS_dec (a b : List Nat) : decide (V.str (toS a) = V.str (toS b)) = (a == b) := by
  by_cases h : a = b
  · subst h; simp
  · rw [beq_eq_false_iff_ne.mpr h, decide_eq_false fun e => h (toS_inj (V.str.inj e))]
theorem toS_eta (z : Str) : toS z.cps.toList = z := by cases z; rfl

/-! ### + - * // % ** -/
def addO : F2
  | .int i, .int j, S => some (.int (i + j), S)
  | .str a, .str b, S => if a.length + b.length ≤ lim then some (.str (a ++ b), S) else none
  | .tup a, .tup b, S => if a.length + b.length ≤ lim then some (.tup (a ++ b), S) else none
  | .ref m, .ref n, S => match S[m]?, S[n]? with
    | some (.lst a), some (.lst b) => if a.length + b.length ≤ lim then some (.ref S.length, S ++ [.lst (a ++ b)]) else none
    | _, _ => none
  | _, _, _ => none
def subO : F2
  | .int i, .int j, S => some (.int (i - j), S)
  | _, _, _ => none
def smallI (i : Int) : Bool := decide (-(2 ^ 64) < i) && decide (i < 2 ^ 64)
def mulO : F2
  | .int i, .int j, S => if smallI i || smallI j then some (.int (i * j), S) else none
  | _, _, _ => none
def modO : F2
  | .int i, .int j, S => if 0 < j then some (.int (i % j), S) else none
  | _, _, _ => none
def fdivO : F2
  | .int i, .int j, S => if 0 < j ∧ j < 1073741824 then some (.int (i / j), S) else none
  | _, _, _ => none
def powO : F2
  | .int i, .int j, S => if 0 ≤ j ∧ j ≤ 1000000 ∧ i.natAbs < 2 ^ 64 then some (.int (i ^ j.toNat), S) else none
  | _, _, _ => none
section
variable {X : Cx}
theorem op_addA : OpA X (binaryOp .Add) addO := by
  intro pins s σ H x y v u Q I rx ry h
  obtain ⟨φ, S, a, b, d, S', rh, ra, rb, e, k⟩ := h
  cases a with
  | int i =>
    cases b with
    | int j =>
      cases e
      exact L2.op_add pins s σ H x y v u Q I rx ry ⟨i, j, ra.int_, rb.int_, k φ H _ .refl rh rv_int⟩
    | _ => cases e
  | str i =>
    cases b with
    | str j =>
      simp only [addO] at e
      split at e
      · cases e
        rename_i hl
        refine L2.op_add_str pins s σ H x y v u Q I rx ry ⟨_, _, ra.str_, rb.str_, by rw [toS_len, toS_len, lim_eq]; exact hl, ?_⟩
        rw [toS_app]
        exact k φ H _ .refl rh rv_str
      · cases e
    | _ => cases e
  | tup i =>
    cases b with
    | tup j =>
      simp only [addO] at e
      split at e
      · cases e
        rename_i hl
        obtain ⟨p, vs, e1, q1, r1⟩ := ra.tup_
        obtain ⟨p2, ws, e2, q2, r2⟩ := rb.tup_
        have l1 := r1.length
        have l2 := r2.length
        refine L2.op_catA pins s σ H x y v u Q I rx ry ⟨p, p2, vs, ws, e1, e2, q1, q2, by rw [← l1, ← l2, lim_eq]; exact hl, fun z => ?_, fun z z' => ?_, fun z z' q hq => ?_⟩
        · have : i = [] := by
            cases i with
            | nil => rfl
            | cons _ _ => rw [z] at l1; cases l1
          subst this
          exact k φ H _ .refl rh (rv_tup q2 r2)
        · have : j = [] := by
            cases j with
            | nil => rfl
            | cons _ _ => rw [z'] at l2; cases l2
          subst this
          rw [List.append_nil] at k
          exact k φ H _ .refl rh (rv_tup q1 r1)
        · have x := Ext.new (K := X.kw) (φ := φ) (o := HO.tup (vs ++ ws)) hq
          exact k φ _ _ x (rh.new hq) (rv_tup (.inl (.inl upd_same)) ((r1.append r2).ext x))
      · cases e
    | _ => cases e
  | ref m =>
    cases b with
    | ref n =>
      simp only [addO] at e
      split at e
      · rename_i xs ys e1 e2
        split at e
        · cases e
          rename_i hl
          obtain ⟨p, z1, g1, vs, h1, r1⟩ := rh.obj e1 ra
          obtain ⟨p2, z2, g2, ws, h2, r2⟩ := rh.obj e2 rb
          refine L2.op_cat pins s σ H x y v u Q I rx ry ⟨p, p2, vs, ws, z1, z2, h1, h2, by rw [← r1.length, ← r2.length, lim_eq]; exact hl, fun q hq => ?_⟩
          have x := Ext.num (K := X.kw) (φ := φ) (o := HO.lst (vs ++ ws)) hq
          exact k _ _ _ x (rh.alloc (x := .lst (xs ++ ys)) (o := HO.lst (vs ++ ws)) hq ⟨_, upd_same, (r1.append r2).ext x⟩) (rv_ref (by rw [← rh.len]; simp))
        · cases e
      · cases e
    | _ => cases e
  | _ => cases e
theorem op_subA : OpA X (binaryOp .Sub) subO := by
  intro pins s σ H x y v u Q I rx ry h
  obtain ⟨φ, S, a, b, d, S', rh, ra, rb, e, k⟩ := h
  cases a with
  | int i =>
    cases b with
    | int j =>
      cases e
      exact L2.op_sub pins s σ H x y v u Q I rx ry ⟨i, j, ra.int_, rb.int_, k φ H _ .refl rh rv_int⟩
    | _ => cases e
  | _ => cases e
theorem op_mulA : OpA X (binaryOp .Mult) mulO := by
  intro pins s σ H x y v u Q I rx ry h
  obtain ⟨φ, S, a, b, d, S', rh, ra, rb, e, k⟩ := h
  cases a with
  | int i =>
    cases b with
    | int j =>
      simp only [mulO] at e
      split at e
      · cases e
        rename_i hc
        refine L2.op_mul pins s σ H x y v u Q I rx ry ⟨i, j, ra.int_, rb.int_, ?_, k φ H _ .refl rh rv_int⟩
        simp only [smallI, Bool.or_eq_true, Bool.and_eq_true, decide_eq_true_eq] at hc
        exact hc
      · cases e
    | _ => cases e
  | _ => cases e
theorem op_modA : OpA X (binaryOp .Mod) modO := by
  intro pins s σ H x y v u Q I rx ry h
  obtain ⟨φ, S, a, b, d, S', rh, ra, rb, e, k⟩ := h
  cases a with
  | int i =>
    cases b with
    | int j =>
      simp only [modO] at e
      split at e
      · cases e
        rename_i hc
        exact L2.op_mod pins s σ H x y v u Q I rx ry ⟨i, j, ra.int_, rb.int_, hc, k φ H _ .refl rh rv_int⟩
      · cases e
    | _ => cases e
  | _ => cases e
theorem op_fdivA : OpA X (binaryOp .FloorDiv) fdivO := by
  intro pins s σ H x y v u Q I rx ry h
  obtain ⟨φ, S, a, b, d, S', rh, ra, rb, e, k⟩ := h
  cases a with
  | int i =>
    cases b with
    | int j =>
      simp only [fdivO] at e
      split at e
      · cases e
        rename_i hc
        exact L2.op_fdiv pins s σ H x y v u Q I rx ry ⟨i, j, ra.int_, rb.int_, hc, k φ H _ .refl rh rv_int⟩
      · cases e
    | _ => cases e
  | _ => cases e
theorem op_powA : OpA X (binaryOp .Pow) powO := by
  intro pins s σ H x y v u Q I rx ry h
  obtain ⟨φ, S, a, b, d, S', rh, ra, rb, e, k⟩ := h
  cases a with
  | int i =>
    cases b with
    | int j =>
      simp only [powO] at e
      split at e
      · cases e
        rename_i hc
        exact L2.op_pow pins s σ H x y v u Q I rx ry ⟨i, j, ra.int_, rb.int_, hc, k φ H _ .refl rh rv_int⟩
      · cases e
    | _ => cases e
  | _ => cases e
end
/-! ### unary minus -/
def eNeg (a : EF) : EF := fun ρ S => (a ρ S).bind fun x S1 => match x with
  | .int i => .ok (.int (-i)) S1
  | _ => .stuck
theorem ae_neg {X : Cx} {W : WX} {a : Expr} {Fa : EF} {pos : Pos} (ha : AE X W a Fa) : AE X W (.UnaryOp .USub a pos) (eNeg Fa) := by
  refine pe_mono (pe_un un_neg ha) fun σ H Q ⟨φ, ρ, S, rh, rl, f⟩ => ⟨φ, ρ, S, rh, rl, (Fin.bind f).imp ?_⟩
  rintro v H1 ⟨φ1, S1, d, e1, rh1, rv1, f1⟩
  cases d with
  | int i => exact ⟨i, rv1.int_, Fin.ok_of f1 rh1 rv_int⟩
  | _ => exact f1.elim

/-! ### data: what == compares -/
def strsOk (x : List Nat) : Bool := x.all fun c => decide (c < 0x110000)
def mapO {α β : Type} (f : α → Option β) : List α → Option (List β)
  | [] => some []
  | x :: xs => match f x, mapO f xs with
    | some y, some ys => some (y :: ys)
    | _, _ => none
/-- the tree of a value: lists read in the store; at most n levels -/
def toP : Nat → Store → D → Option PyData
  | 0, _, _ => none
  | n + 1, S, d => match d with
    | .non => some .none
    | .bl b => some (.bool b)
    | .int i => some (.int i)
    | .str x => if strsOk x then some (.str (toS x)) else none
    | .tup ds => (mapO (toP n S) ds).map .tuple
    | .ref m => match S[m]? with
      | some (.lst xs) => (mapO (toP n S) xs).map .list
      | _ => none
    | .scl xs => (mapO (toP n S) xs).map .list
def eqO : F2
  | .str a, .str b, S => some (.bl (a == b), S)
  | .int a, .int b, S => some (.bl (a == b), S)
  | a, b, S => match toP 60 S a, toP 60 S b with
    | some p, some q => some (.bl (PyData.eqv p q), S)
    | _, _ => none
def neO : F2
  | .str a, .str b, S => some (.bl (!(a == b)), S)
  | .int a, .int b, S => some (.bl (!(a == b)), S)
  | a, b, S => match toP 60 S a, toP 60 S b with
    | some p, some q => some (.bl (!PyData.eqv p q), S)
    | _, _ => none
section
variable {K : KW} {φ : List Addr} {H : Hp} {S : Store}
theorem toP_all (rh : RH K φ H S) {n : Nat} (ih : ∀ d v p, RV K φ H d v → toP n S d = some p → Dp K H v p ∧ p.canLay0 = true ∧ p.depth ≤ n) :
    ∀ (ds : List D) (vs : List V) (ps : List PyData), RVs K φ H ds vs → mapO (toP n S) ds = some ps → DpAll K H vs ps ∧ PyData.canLayAll0 ps = true ∧ PyData.depthAll ps ≤ n
  | [], vs, ps, h, e => by
    cases h.nil_iff
    cases e
    exact ⟨.nil, rfl, Nat.zero_le _⟩
  | d :: ds, vs, ps, h, e => by
    obtain ⟨v, r, rfl, h1, h2⟩ := h.cons_iff
    simp only [mapO] at e
    split at e
    · rename_i y ys e1 e2
      cases e
      obtain ⟨a1, a2, a3⟩ := ih d v y h1 e1
      obtain ⟨b1, b2, b3⟩ := toP_all rh ih ds r ys h2 e2
      refine ⟨.cons a1 b1, ?_, ?_⟩
      · show (PyData.canLay0 y && PyData.canLayAll0 ys) = true
        rw [a2, b2]; rfl
      · show max y.depth (PyData.depthAll ys) ≤ n
        omega
    · cases e
theorem toP_ok (rh : RH K φ H S) : ∀ (n : Nat) (d : D) (v : V) (p : PyData), RV K φ H d v → toP n S d = some p → Dp K H v p ∧ p.canLay0 = true ∧ p.depth ≤ n
  | 0, d, v, p, h, e => by cases e
  | n + 1, d, v, p, h, e => by
    cases d with
    | non => cases e; rw [h.non_]; exact ⟨.non, rfl, Nat.zero_le _⟩
    | bl b => cases e; rw [h.bl_]; exact ⟨.bl b, rfl, Nat.zero_le _⟩
    | int i => cases e; rw [h.int_]; exact ⟨.int i, rfl, Nat.zero_le _⟩
    | str x =>
      simp only [toP] at e
      split at e
      · cases e
        rename_i hx
        rw [h.str_]
        refine ⟨.str _, ?_, Nat.zero_le _⟩
        show PyData.strOk (toS x) = true
        unfold PyData.strOk
        unfold strsOk at hx
        simpa [toS] using hx
      · cases e
    | tup ds =>
      simp only [toP] at e
      obtain ⟨q, vs, rfl, sq, r⟩ := h.tup_
      cases z : mapO (toP n S) ds with
      | none => rw [z] at e; cases e
      | some ps =>
        rw [z] at e
        cases e
        obtain ⟨a1, a2, a3⟩ := toP_all rh (fun d v p => toP_ok rh n d v p) ds vs ps r z
        exact ⟨.tup sq a1, a2, by show PyData.depthAll ps + 1 ≤ n + 1; omega⟩
    | ref m =>
      simp only [toP] at e
      split at e
      · rename_i xs e1
        obtain ⟨q, rfl, g, vs, h1, r⟩ := rh.obj e1 h
        cases z : mapO (toP n S) xs with
        | none => rw [z] at e; cases e
        | some ps =>
          rw [z] at e
          cases e
          obtain ⟨a1, a2, a3⟩ := toP_all rh (fun d v p => toP_ok rh n d v p) xs vs ps r z
          exact ⟨.lst (.inl (.inl h1)) a1, a2, by show PyData.depthAll ps + 1 ≤ n + 1; omega⟩
      · cases e
    | scl xs =>
      simp only [toP] at e
      obtain ⟨q, vs, rfl, sq, r⟩ := h.scl_
      cases z : mapO (toP n S) xs with
      | none => rw [z] at e; cases e
      | some ps =>
        rw [z] at e
        cases e
        obtain ⟨a1, a2, a3⟩ := toP_all rh (fun d v p => toP_ok rh n d v p) xs vs ps r z
        exact ⟨.lst sq.sq a1, a2, by show PyData.depthAll ps + 1 ≤ n + 1; omega⟩
theorem toP_shaped (rh : RH K φ H S) {d : D} {v : V} {p : PyData} (h : RV K φ H d v) (e : toP 60 S d = some p) : Dp K H v p ∧ SeqAt.shaped p = true := by
  obtain ⟨a, b, c⟩ := toP_ok rh 60 d v p h e
  refine ⟨a, ?_⟩
  unfold SeqAt.shaped
  rw [b, Bool.true_and]
  exact decide_eq_true (by omega)
end
section
variable {X : Cx}
theorem op_eqA (hu : X.A.units + 64 < cLine) : OpA X (compareOp .Eq) eqO := by
  intro pins s σ H x y v u Q I rx ry h
  obtain ⟨φ, S, a, b, d, S', rh, ra, rb, e, k⟩ := h
  unfold eqO at e
  split at e
  · cases e
    refine L2.op_eq pins s σ H x y v u Q I rx ry ⟨by rw [ra.str_, rb.str_]; rfl, ?_⟩
    rw [ra.str_, rb.str_, toS_dec]
    exact k φ H _ .refl rh rv_bl
  · cases e
    refine L2.op_eq pins s σ H x y v u Q I rx ry ⟨by rw [ra.int_, rb.int_]; rfl, ?_⟩
    rw [ra.int_, rb.int_, dec_int]
    exact k φ H _ .refl rh rv_bl
  · split at e
    · rename_i p q e1 e2
      cases e
      obtain ⟨a1, a2⟩ := toP_shaped rh ra e1
      obtain ⟨b1, b2⟩ := toP_shaped rh rb e2
      exact L2.op_eqD hu pins s σ H x y v u Q I rx ry ⟨p, q, a1, b1, a2, b2, k φ H _ .refl rh rv_bl⟩
    · cases e
theorem op_neA (hu : X.A.units + 64 < cLine) : OpA X (compareOp .NotEq) neO := by
  intro pins s σ H x y v u Q I rx ry h
  obtain ⟨φ, S, a, b, d, S', rh, ra, rb, e, k⟩ := h
  unfold neO at e
  split at e
  · cases e
    refine L2.op_ne pins s σ H x y v u Q I rx ry ⟨by rw [ra.str_, rb.str_]; rfl, ?_⟩
    rw [ra.str_, rb.str_, toS_dec]
    exact k φ H _ .refl rh rv_bl
  · cases e
    refine L2.op_ne pins s σ H x y v u Q I rx ry ⟨by rw [ra.int_, rb.int_]; rfl, ?_⟩
    rw [ra.int_, rb.int_, dec_int]
    exact k φ H _ .refl rh rv_bl
  · split at e
    · rename_i p q e1 e2
      cases e
      obtain ⟨a1, a2⟩ := toP_shaped rh ra e1
      obtain ⟨b1, b2⟩ := toP_shaped rh rb e2
      exact L2.op_neD hu pins s σ H x y v u Q I rx ry ⟨p, q, a1, b1, a2, b2, k φ H _ .refl rh rv_bl⟩
    · cases e
end

/-! ### order -/
def ltO : F2
  | .int i, .int j, S => some (.bl (decide (i < j)), S)
  | .str a, .str b, S => some (.bl (decide (a < b)), S)
  | _, _, _ => none
def leO : F2
  | .int i, .int j, S => some (.bl (decide (i ≤ j)), S)
  | .str a, .str b, S => some (.bl (!decide (b < a)), S)
  | _, _, _ => none
def gtO : F2
  | .int i, .int j, S => some (.bl (decide (j < i)), S)
  | .str a, .str b, S => some (.bl (decide (b < a)), S)
  | _, _, _ => none
def geO : F2
  | .int i, .int j, S => some (.bl (decide (j ≤ i)), S)
  | .str a, .str b, S => some (.bl (!decide (a < b)), S)
  | _, _, _ => none
section
variable {X : Cx}
theorem op_ltA : OpA X (compareOp .Lt) ltO := by
  intro pins s σ H x y v u Q I rx ry h
  obtain ⟨φ, S, a, b, d, S', rh, ra, rb, e, k⟩ := h
  unfold ltO at e
  split at e
  · cases e; exact L2.op_lt pins s σ H x y v u Q I rx ry ⟨_, _, ra.int_, rb.int_, k φ H _ .refl rh rv_bl⟩
  · cases e; exact L2.op_lt_str pins s σ H x y v u Q I rx ry ⟨_, _, ra.str_, rb.str_, by simpa [toS] using k φ H _ .refl rh rv_bl⟩
  · cases e
theorem op_leA : OpA X (compareOp .LtE) leO := by
  intro pins s σ H x y v u Q I rx ry h
  obtain ⟨φ, S, a, b, d, S', rh, ra, rb, e, k⟩ := h
  unfold leO at e
  split at e
  · cases e; exact L2.op_le pins s σ H x y v u Q I rx ry ⟨_, _, ra.int_, rb.int_, k φ H _ .refl rh rv_bl⟩
  · cases e; exact L2.op_le_str pins s σ H x y v u Q I rx ry ⟨_, _, ra.str_, rb.str_, k φ H _ .refl rh rv_bl⟩
  · cases e
theorem op_gtA : OpA X (compareOp .Gt) gtO := by
  intro pins s σ H x y v u Q I rx ry h
  obtain ⟨φ, S, a, b, d, S', rh, ra, rb, e, k⟩ := h
  unfold gtO at e
  split at e
  · cases e; exact L2.op_gt pins s σ H x y v u Q I rx ry ⟨_, _, ra.int_, rb.int_, k φ H _ .refl rh rv_bl⟩
  · cases e; exact L2.op_gt_str pins s σ H x y v u Q I rx ry ⟨_, _, ra.str_, rb.str_, k φ H _ .refl rh rv_bl⟩
  · cases e
theorem op_geA : OpA X (compareOp .GtE) geO := by
  intro pins s σ H x y v u Q I rx ry h
  obtain ⟨φ, S, a, b, d, S', rh, ra, rb, e, k⟩ := h
  unfold geO at e
  split at e
  · cases e; exact L2.op_ge pins s σ H x y v u Q I rx ry ⟨_, _, ra.int_, rb.int_, k φ H _ .refl rh rv_bl⟩
  · cases e; exact L2.op_ge_str pins s σ H x y v u Q I rx ry ⟨_, _, ra.str_, rb.str_, k φ H _ .refl rh rv_bl⟩
  · cases e
end

/-! ### in -/
/-- a text among texts -/
def asStr : D → Option (List Nat)
  | .str x => some x
  | _ => none
def inB (a b : D) (S : Store) : Option Bool := match a, b with
  | .str [c], .str z => some (decide (c ∈ z))
  | .str x, .tup ds => (mapO asStr ds).map fun l => l.any (· == x)
  | .str x, .ref n => match S[n]? with
    | some (.lst ds) => (mapO asStr ds).map fun l => l.any (· == x)
    | _ => none
  | _, _ => none
def inO : F2 := fun a b S => (inB a b S).map fun k => (.bl k, S)
def notInO : F2 := fun a b S => (inB a b S).map fun k => (.bl (!k), S)
theorem asStr_all {K : KW} {φ : List Addr} {H : Hp} : ∀ {ds : List D} {vs : List V} {l : List (List Nat)}, RVs K φ H ds vs → mapO asStr ds = some l → vs = (l.map toS).map V.str
  | [], vs, l, h, e => by cases e; exact h.nil_iff
  | d :: ds, vs, l, h, e => by
    obtain ⟨v, r, rfl, h1, h2⟩ := h.cons_iff
    simp only [mapO] at e
    split at e
    · rename_i y ys e1 e2
      cases e
      cases d with
      | str x => cases e1; rw [h1.str_, asStr_all h2 e2]; rfl
      | _ => cases e1
    · cases e
theorem flat_strsL (l : List (List Nat)) : ((l.map toS).map V.str).all flatV = true := by
  induction l with
  | nil => rfl
  | cons x xs ih => exact ih
theorem inV_strs (x : List Nat) (l : List (List Nat)) : inV (.str (toS x)) ((l.map toS).map V.str) = l.any (· == x) := by
  unfold inV
  induction l with
  | nil => rfl
  | cons y ys ih =>
    rw [List.map_cons, List.map_cons, List.any_cons, List.any_cons, ih]
    congr 1
    exact toS_beq y x
section
variable {X : Cx}
theorem in_seq {φ : List Addr} {H : Hp} {S : Store} {a b : D} {k : Bool} {x y : V} (rh : RH X.kw φ H S) (ra : RV X.kw φ H a x) (rb : RV X.kw φ H b y) (e : inB a b S = some k) :
    (∃ (c : Nat) (z : List Nat), a = .str [c] ∧ b = .str z ∧ k = decide (c ∈ z)) ∨ ∃ p xs, y = .ref p ∧ (SqL X.kw H p xs ∨ SqT X.kw H p xs) ∧ flatV x = true ∧ xs.all flatV = true ∧ inV x xs = k := by
  unfold inB at e
  split at e
  · cases e; exact .inl ⟨_, _, rfl, rfl, rfl⟩
  · rename_i z ds
    cases m : mapO asStr ds with
    | none => rw [m] at e; cases e
    | some l =>
      rw [m] at e
      cases e
      obtain ⟨p, vs, rfl, sq, r⟩ := rb.tup_
      have := asStr_all r m
      subst this
      exact .inr ⟨p, _, rfl, .inr sq, by rw [ra.str_]; rfl, flat_strsL l, by rw [ra.str_]; exact inV_strs z l⟩
  · split at e
    · rename_i z n _ _ ds e1
      cases m : mapO asStr ds with
      | none => rw [m] at e; cases e
      | some l =>
        rw [m] at e
        cases e
        obtain ⟨p, rfl, g, vs, h1, r⟩ := rh.obj e1 rb
        have := asStr_all r m
        subst this
        exact .inr ⟨p, _, rfl, .inl (.inl (.inl h1)), by rw [ra.str_]; rfl, flat_strsL l, by rw [ra.str_]; exact inV_strs _ l⟩
    · cases e
  · cases e
theorem op_inA : OpA X (compareOp .In) inO := by
  intro pins s σ H x y v u Q I rx ry h
  obtain ⟨φ, S, a, b, d, S', rh, ra, rb, e, k⟩ := h
  unfold inO at e
  cases z : inB a b S with
  | none => rw [z] at e; cases e
  | some t =>
    rw [z] at e
    cases e
    rcases in_seq rh ra rb z with ⟨c, w, rfl, rfl, rfl⟩ | ⟨p, xs, e1, sq, f1, f2, e2⟩
    · exact L2.op_in_sign pins s σ H x y v u Q I rx ry ⟨c, toS w, ra.str_, rb.str_, by simpa [toS] using k φ H _ .refl rh rv_bl⟩
    · refine L2.op_in_seq pins s σ H x y v u Q I rx ry ⟨p, xs, e1, sq, f1, f2, ?_⟩
      rw [if_neg Bool.false_ne_true, e2]
      exact k φ H _ .refl rh rv_bl
theorem op_notInA : OpA X (compareOp .NotIn) notInO := by
  intro pins s σ H x y v u Q I rx ry h
  obtain ⟨φ, S, a, b, d, S', rh, ra, rb, e, k⟩ := h
  unfold notInO at e
  cases z : inB a b S with
  | none => rw [z] at e; cases e
  | some t =>
    rw [z] at e
    cases e
    rcases in_seq rh ra rb z with ⟨c, w, rfl, rfl, rfl⟩ | ⟨p, xs, e1, sq, f1, f2, e2⟩
    · exact L2.op_notIn_sign pins s σ H x y v u Q I rx ry ⟨c, toS w, ra.str_, rb.str_, by simpa [toS] using k φ H _ .refl rh rv_bl⟩
    · refine L2.op_notIn_seq pins s σ H x y v u Q I rx ry ⟨p, xs, e1, sq, f1, f2, ?_⟩
      rw [if_pos rfl, e2]
      exact k φ H _ .refl rh rv_bl
end
end Al

set_option Elab.async false
set_option linter.all false
set_option maxRecDepth 100000
set_option maxHeartbeats 1000000
/-! Al: built-in functions, subscripts, slices, methods. -/
namespace Al
open PySem PySem.Spec PyProof.Rows L2
/-! ### len -/
def lenF : FN
  | [.str x], S => if x.length ≤ lim then some (.int x.length, S) else none
  | [.tup ds], S => some (.int ds.length, S)
  | [.ref n], S => match S[n]? with
    | some (.lst xs) => some (.int xs.length, S)
    | _ => none
  | [.scl xs], S => some (.int xs.length, S)
  | _, _ => none
section
variable {X : Cx}
theorem rvs1 {K : KW} {φ H} {d : D} {xs : List V} (h : RVs K φ H [d] xs) : ∃ v, xs = [v] ∧ RV K φ H d v := by
  obtain ⟨v, r, rfl, h1, h2⟩ := h.cons_iff
  cases h2.nil_iff
  exact ⟨v, rfl, h1⟩
theorem rvs2 {K : KW} {φ H} {d e : D} {xs : List V} (h : RVs K φ H [d, e] xs) : ∃ v w, xs = [v, w] ∧ RV K φ H d v ∧ RV K φ H e w := by
  obtain ⟨v, r, rfl, h1, h2⟩ := h.cons_iff
  obtain ⟨w, rfl, h3⟩ := rvs1 h2
  exact ⟨v, w, rfl, h1, h3⟩
theorem call_lenA : CallA X (.builtin "len") lenF := by
  intro pins s σ H xs us Q I r h
  obtain ⟨φ, S, ds, d, S', rh, rv, e, k⟩ := h
  unfold lenF at e
  split at e
  · rename_i x
    split at e
    · cases e
      rename_i hl
      obtain ⟨v, rfl, rz⟩ := rvs1 rv
      refine L2.call_len_str pins s σ H _ us Q I r ⟨toS x, by rw [rz.str_], by rw [toS_len, lim_eq]; exact hl, ?_⟩
      rw [toS_len]
      exact k φ H _ .refl rh rv_int
    · cases e
  · rename_i es
    cases e
    obtain ⟨v, rfl, rz⟩ := rvs1 rv
    obtain ⟨p, vs, rfl, sq, rs⟩ := rz.tup_
    refine L2.call_len_seq pins s σ H _ us Q I r ⟨p, vs, rfl, .inr sq, ?_⟩
    rw [← rs.length]
    exact k φ H _ .refl rh rv_int
  · rename_i n
    split at e
    · rename_i ys e1
      cases e
      obtain ⟨v, rfl, rz⟩ := rvs1 rv
      obtain ⟨p, rfl, g, vs, h1, rs⟩ := rh.obj e1 rz
      refine L2.call_len_seq pins s σ H _ us Q I r ⟨p, vs, rfl, .inl (.inl (.inl h1)), ?_⟩
      rw [← rs.length]
      exact k φ H _ .refl rh rv_int
    · cases e
  · rename_i ys
    cases e
    obtain ⟨v, rfl, rz⟩ := rvs1 rv
    obtain ⟨p, vs, rfl, sq, rs⟩ := rz.scl_
    refine L2.call_len_seq pins s σ H _ us Q I r ⟨p, vs, rfl, .inl sq.sq, ?_⟩
    rw [← rs.length]
    exact k φ H _ .refl rh rv_int
  · cases e
end

/-! ### isinstance(x, T), T a built-in type -/
inductive Kd where
  | non | bl | int | str | tup | lst | dct
  deriving DecidableEq
def kdOf (d : D) (S : Store) : Option Kd := match d with
  | .non => some .non
  | .bl _ => some .bl
  | .int _ => some .int
  | .str _ => some .str
  | .tup _ => some .tup
  | .ref n => match S[n]? with
    | some (.lst _) => some .lst
    | some (.dct _) => some .dct
    | _ => none
  | .scl _ => some .lst
def Kd.ty : Kd → String
  | .non => "NoneType" | .bl => "bool" | .int => "int" | .str => "str" | .tup => "tuple" | .lst => "list" | .dct => "dict"
/-- T's answers -/
structure IsT (T : String) (t : Kd → Bool) : Prop where
  ans : ∀ k : Kd, kitB k.ty T = some (t k)
def isStr : Kd → Bool | .str => true | _ => false
def isTup : Kd → Bool | .tup => true | _ => false
def isLst : Kd → Bool | .lst => true | _ => false
def isDct : Kd → Bool | .dct => true | _ => false
def isInt : Kd → Bool | .int => true | .bl => true | _ => false
def isBl : Kd → Bool | .bl => true | _ => false
theorem isT_str : IsT "str" isStr := ⟨fun k => by cases k <;> decide +kernel⟩
theorem isT_tup : IsT "tuple" isTup := ⟨fun k => by cases k <;> decide +kernel⟩
theorem isT_lst : IsT "list" isLst := ⟨fun k => by cases k <;> decide +kernel⟩
theorem isT_dct : IsT "dict" isDct := ⟨fun k => by cases k <;> decide +kernel⟩
theorem isT_int : IsT "int" isInt := ⟨fun k => by cases k <;> decide +kernel⟩
theorem isT_bl : IsT "bool" isBl := ⟨fun k => by cases k <;> decide +kernel⟩
def eIsi (t : Kd → Bool) (a : EF) : EF := fun ρ S => (a ρ S).bind fun x S1 => match kdOf x S1 with
  | some k => .ok (.bl (t k)) S1
  | none => .stuck
theorem kd_ty {K : KW} {φ : List Addr} {H : Hp} {S : Store} {d : D} {k : Kd} {v : V} (rh : RH K φ H S) (e : kdOf d S = some k) (r : RV K φ H d v) : TyX K H v (.type k.ty) := by
  cases d with
  | non => cases e; rw [r.non_]; exact .base .non
  | bl b => cases e; rw [r.bl_]; exact .base (.bl b)
  | int i => cases e; rw [r.int_]; exact .base (.int i)
  | str x => cases e; rw [r.str_]; exact .base (.str _)
  | tup ds =>
    cases e
    obtain ⟨p, vs, rfl, sq, _⟩ := r.tup_
    rcases sq with (h | ⟨o, h⟩) | ⟨o, its, n, h, hc, _⟩
    · exact .base (.tup h)
    · exact .fTuple h
    · exact .kTuple h hc
  | ref n =>
    simp only [kdOf] at e
    split at e
    · rename_i xs e1
      cases e
      obtain ⟨p, rfl, g, vs, h1, _⟩ := rh.obj e1 r
      exact .base (.lst h1)
    · rename_i xs e1
      cases e
      obtain ⟨p, rfl, g, vs, h1, _⟩ := rh.obj e1 r
      exact .base (.dK h1)
    · cases e
  | scl ds =>
    cases e
    obtain ⟨p, vs, rfl, sq, _⟩ := r.scl_
    rcases sq with ⟨o, h⟩ | ⟨o, its, n, h, hc, _⟩
    · exact .base (.frz h)
    · exact .kList h hc
section
variable {X : Cx} {W : WX} {e : Expr} {Fa : EF} {pos p q : Pos}
theorem ae_isi {T : Str} {TT : String} {t : Kd → Bool} (ht : IsT TT t) (ha : AE X W e Fa) (hm : X.mg "isinstance" = none) (hmT : X.mg T = none) (hb : bootBuiltins T = some (.type TT)) (hg : Gl X "isinstance" := by rfl) (hgT : Gl X T := by rfl) (hn : T ≠ "__name__" := by decide) (hd : (T == ("__debug__" : Str)) = false := by decide)
    (he : starEach [e, .Name T q] X.env = (false, eval e X.env) :: starEach [.Name T q] X.env := by rfl) (he2 : starEach [.Name T q] X.env = (false, eval (.Name T q) X.env) :: starEach [] X.env := by rfl) (hpl : (backTo pos (starEach [.Name T q] X.env)).any (·.1) = false := by rfl) :
    AE X W (.Call (.Name "isinstance" p) [e, .Name T q] [] pos) (eIsi t Fa) := by
  refine pe_mono (pe_callB L2.call_isi hg hm PyProof.Rows.boot_isinstance (pa_cons ha (pa_cons (pe_bltn (v := .ty TT) hgT hmT hb rfl hn hd) pa_nil he2) he) (by decide) (by decide) he hpl) fun σ H Q ⟨φ, ρ, S, rh, rl, f⟩ => ⟨φ, ρ, S, rh, rl, (Fin.bind f).imp ?_⟩
  rintro v H1 ⟨φ1, S1, d, e1, rh1, rv1, f1⟩
  split at f1
  · rename_i k ek
    exact ⟨v, .ty TT, .type k.ty, .type TT, t k, rfl, .ty TT, kd_ty rh1 ek rv1, kit_ty (ht.ans k), Fin.ok_of f1 rh1 rv_bl⟩
  · exact f1.elim
end

/-! ### int, min, max, all, any, sum -/
def intF : FN
  | [.int i], S => some (.int i, S)
  | _, _ => none
def minF : FN
  | [.int i, .int j], S => some (.int (if j < i then j else i), S)
  | _, _ => none
def maxF : FN
  | [.int i, .int j], S => some (.int (if j > i then j else i), S)
  | _, _ => none
def asBl : D → Option Bool
  | .bl b => some b
  | _ => none
def asInt : D → Option Int
  | .int b => some b
  | _ => none
def lstAt (S : Store) (n : Nat) : Option (List D) := match S[n]? with
  | some (.lst xs) => some xs
  | _ => none
def allF : FN
  | [.ref n], S => ((lstAt S n).bind (mapO asBl)).map fun l => (.bl (l.all id), S)
  | _, _ => none
def anyF : FN
  | [.ref n], S => ((lstAt S n).bind (mapO asBl)).map fun l => (.bl (l.any id), S)
  | _, _ => none
def sumF : FN
  | [.ref n], S => ((lstAt S n).bind (mapO asInt)).map fun l => (.int l.sum, S)
  | _, _ => none
theorem asBl_all {K : KW} {φ : List Addr} {H : Hp} : ∀ {ds : List D} {vs : List V} {l : List Bool}, RVs K φ H ds vs → mapO asBl ds = some l → vs = l.map V.bl
  | [], vs, l, h, e => by cases e; exact h.nil_iff
  | d :: ds, vs, l, h, e => by
    obtain ⟨v, r, rfl, h1, h2⟩ := h.cons_iff
    simp only [mapO] at e
    split at e
    · rename_i y ys e1 e2
      cases e
      cases d with
      | bl x => cases e1; rw [h1.bl_, asBl_all h2 e2]; rfl
      | _ => cases e1
    · cases e
theorem asInt_all {K : KW} {φ : List Addr} {H : Hp} : ∀ {ds : List D} {vs : List V} {l : List Int}, RVs K φ H ds vs → mapO asInt ds = some l → vs = l.map V.int
  | [], vs, l, h, e => by cases e; exact h.nil_iff
  | d :: ds, vs, l, h, e => by
    obtain ⟨v, r, rfl, h1, h2⟩ := h.cons_iff
    simp only [mapO] at e
    split at e
    · rename_i y ys e1 e2
      cases e
      cases d with
      | int x => cases e1; rw [h1.int_, asInt_all h2 e2]; rfl
      | _ => cases e1
    · cases e
theorem lstAt_ok {K : KW} {φ : List Addr} {H : Hp} {S : Store} {n : Nat} {xs : List D} {v : V} (rh : RH K φ H S) (e : lstAt S n = some xs) (r : RV K φ H (.ref n) v) : ∃ p vs, v = .ref p ∧ SqL K H p vs ∧ RVs K φ H xs vs := by
  unfold lstAt at e
  split at e
  · rename_i ys e1
    cases e
    obtain ⟨p, rfl, g, vs, h1, rs⟩ := rh.obj e1 r
    exact ⟨p, vs, rfl, .inl (.inl h1), rs⟩
  · cases e
section
variable {X : Cx}
theorem call_intA : CallA X (.type "int") intF := by
  intro pins s σ H xs us Q I r h
  obtain ⟨φ, S, ds, d, S', rh, rv, e, k⟩ := h
  unfold intF at e
  split at e
  · cases e
    obtain ⟨v, rfl, rz⟩ := rvs1 rv
    exact L2.call_int1 pins s σ H _ us Q I r (.inl ⟨_, by rw [rz.int_], k φ H _ .refl rh rv_int⟩)
  · cases e
theorem call_minA (hc : X.calm = true) : CallA X (.builtin "min") minF := by
  intro pins s σ H xs us Q I r h
  obtain ⟨φ, S, ds, d, S', rh, rv, e, k⟩ := h
  unfold minF at e
  split at e
  · cases e
    obtain ⟨v, w, rfl, rz, rw'⟩ := rvs2 rv
    exact L2.call_min2 hc pins s σ H _ us Q I r ⟨_, _, by rw [rz.int_, rw'.int_], k φ H _ .refl rh rv_int⟩
  · cases e
theorem call_maxA (hc : X.calm = true) : CallA X (.builtin "max") maxF := by
  intro pins s σ H xs us Q I r h
  obtain ⟨φ, S, ds, d, S', rh, rv, e, k⟩ := h
  unfold maxF at e
  split at e
  · cases e
    obtain ⟨v, w, rfl, rz, rw'⟩ := rvs2 rv
    exact L2.call_max2 hc pins s σ H _ us Q I r ⟨_, _, by rw [rz.int_, rw'.int_], k φ H _ .refl rh rv_int⟩
  · cases e
theorem bindO {α β : Type} {o : Option α} {f : α → Option β} {b : β} (h : o.bind f = some b) : ∃ a, o = some a ∧ f a = some b := by
  cases o with
  | none => cases h
  | some a => exact ⟨a, rfl, h⟩
theorem mapOpt {α β : Type} {o : Option α} {f : α → β} {b : β} (h : o.map f = some b) : ∃ a, o = some a ∧ f a = b := by
  cases o with
  | none => cases h
  | some a => exact ⟨a, rfl, Option.some.inj h⟩
theorem call_allA (hc : X.calm = true) : CallA X (.builtin "all") allF := by
  intro pins s σ H xs us Q I r h
  obtain ⟨φ, S, ds, d, S', rh, rv, e, k⟩ := h
  unfold allF at e
  split at e
  · obtain ⟨l, e1, e2⟩ := mapOpt e
    cases e2
    obtain ⟨xs, e1, e3⟩ := bindO e1
    obtain ⟨v, rfl, rz⟩ := rvs1 rv
    obtain ⟨p, vs, rfl, sq, rs⟩ := lstAt_ok rh e1 rz
    rw [asBl_all rs e3] at sq
    exact L2.cr_all hc pins s σ H _ us Q I r ⟨p, l, rfl, sq, k φ H _ .refl rh rv_bl⟩
  · cases e
theorem call_anyA (hc : X.calm = true) : CallA X (.builtin "any") anyF := by
  intro pins s σ H xs us Q I r h
  obtain ⟨φ, S, ds, d, S', rh, rv, e, k⟩ := h
  unfold anyF at e
  split at e
  · obtain ⟨l, e1, e2⟩ := mapOpt e
    cases e2
    obtain ⟨xs, e1, e3⟩ := bindO e1
    obtain ⟨v, rfl, rz⟩ := rvs1 rv
    obtain ⟨p, vs, rfl, sq, rs⟩ := lstAt_ok rh e1 rz
    rw [asBl_all rs e3] at sq
    exact L2.cr_any hc pins s σ H _ us Q I r ⟨p, l, rfl, sq, k φ H _ .refl rh rv_bl⟩
  · cases e
theorem call_sumA (hc : X.calm = true) : CallA X (.builtin "sum") sumF := by
  intro pins s σ H xs us Q I r h
  obtain ⟨φ, S, ds, d, S', rh, rv, e, k⟩ := h
  unfold sumF at e
  split at e
  · obtain ⟨l, e1, e2⟩ := mapOpt e
    cases e2
    obtain ⟨xs, e1, e3⟩ := bindO e1
    obtain ⟨v, rfl, rz⟩ := rvs1 rv
    obtain ⟨p, vs, rfl, sq, rs⟩ := lstAt_ok rh e1 rz
    rw [asInt_all rs e3] at sq
    exact L2.cr_sum hc pins s σ H _ us Q I r ⟨p, l, rfl, sq, k φ H _ .refl rh rv_int⟩
  · cases e
end

/-! ### list(x), tuple(x) -/
def listF : FN
  | [.tup ds], S => some (.ref S.length, S ++ [.lst ds])
  | [.ref n], S => (lstAt S n).map fun xs => (.ref S.length, S ++ [.lst xs])
  | [.scl ds], S => some (.ref S.length, S ++ [.lst ds])
  | _, _ => none
def tupleF : FN
  | [.tup ds], S => some (.tup ds, S)
  | [.ref n], S => (lstAt S n).map fun xs => (.tup xs, S)
  | _, _ => none
section
variable {X : Cx}
theorem new_list {K : KW} {φ : List Addr} {H : Hp} {S : Store} {ds : List D} {vs : List V} {Q : VK} (rh : RH K φ H S) (r : RVs K φ H ds vs)
    (k : ∀ φ' H' v, Ext K φ H φ' H' → RH K φ' H' (S ++ [.lst ds]) → RV K φ' H' (.ref S.length) v → Q v H') (q : Addr) (hq : H q = none) : Q (.ref q) (upd H q (.lst vs)) := by
  have x := Ext.num (K := K) (φ := φ) (o := HO.lst vs) hq
  exact k _ _ _ x (rh.alloc (x := .lst ds) (o := HO.lst vs) hq ⟨_, upd_same, r.ext x⟩) (rv_ref (by rw [← rh.len]; simp))
theorem new_tup {K : KW} {φ : List Addr} {H : Hp} {S : Store} {ds : List D} {vs : List V} {Q : VK} (rh : RH K φ H S) (r : RVs K φ H ds vs)
    (k : ∀ φ' H' v, Ext K φ H φ' H' → RH K φ' H' S → RV K φ' H' (.tup ds) v → Q v H') (q : Addr) (hq : H q = none) : Q (.ref q) (upd H q (.tup vs)) := by
  have x := Ext.new (K := K) (φ := φ) (o := HO.tup vs) hq
  exact k _ _ _ x (rh.new hq) (rv_tup (.inl (.inl upd_same)) (r.ext x))
theorem call_listA : CallA X (.type "list") listF := by
  intro pins s σ H xs us Q I r h
  obtain ⟨φ, S, ds, d, S', rh, rv, e, k⟩ := h
  unfold listF at e
  split at e
  · cases e
    obtain ⟨v, rfl, rz⟩ := rvs1 rv
    obtain ⟨p, vs, rfl, sq, rs⟩ := rz.tup_
    exact L2.call_list_of pins s σ H _ us Q I r ⟨p, vs, rfl, .inr sq, new_list rh rs k⟩
  · obtain ⟨l, e1, e2⟩ := mapOpt e
    cases e2
    obtain ⟨v, rfl, rz⟩ := rvs1 rv
    obtain ⟨p, vs, rfl, sq, rs⟩ := lstAt_ok rh e1 rz
    exact L2.call_list_of pins s σ H _ us Q I r ⟨p, vs, rfl, .inl sq, new_list rh rs k⟩
  · cases e
    obtain ⟨v, rfl, rz⟩ := rvs1 rv
    obtain ⟨p, vs, rfl, sq, rs⟩ := rz.scl_
    exact L2.call_list_of pins s σ H _ us Q I r ⟨p, vs, rfl, .inl sq.sq, new_list rh rs k⟩
  · cases e
theorem call_tupleA : CallA X (.type "tuple") tupleF := by
  intro pins s σ H xs us Q I r h
  obtain ⟨φ, S, ds, d, S', rh, rv, e, k⟩ := h
  unfold tupleF at e
  split at e
  · cases e
    obtain ⟨v, rfl, rz⟩ := rvs1 rv
    obtain ⟨p, vs, rfl, sq, rs⟩ := rz.tup_
    exact L2.call_tuple_of pins s σ H _ us Q I r ⟨p, vs, rfl, .inr ⟨sq, k φ H _ .refl rh (rv_tup sq rs)⟩⟩
  · obtain ⟨l, e1, e2⟩ := mapOpt e
    cases e2
    obtain ⟨v, rfl, rz⟩ := rvs1 rv
    obtain ⟨p, vs, rfl, sq, rs⟩ := lstAt_ok rh e1 rz
    exact L2.call_tuple_of pins s σ H _ us Q I r ⟨p, vs, rfl, .inl ⟨sq, new_tup rh rs k⟩⟩
  · cases e
end

/-! ### subscripts -/
def ixO : F2
  | .tup ds, .int i, S => (atI ds i).map fun d => (d, S)
  | .str x, .int i, S => if x.length ≤ lim then (atI x i).map fun c => (.str [c], S) else none
  | .ref n, .int i, S => ((lstAt S n).bind fun xs => atI xs i).map fun d => (d, S)
  | _, _, _ => none
def IxA (X : Cx) (f : F2) : Prop :=
  IxR X (fun x y H Q => ∃ φ S a b d S', RH X.kw φ H S ∧ RV X.kw φ H a x ∧ RV X.kw φ H b y ∧ f a b S = some (d, S') ∧ ∀ φ' H' v, Ext X.kw φ H φ' H' → RH X.kw φ' H' S' → RV X.kw φ' H' d v → Q v H')
theorem atI_rel {K : KW} {φ : List Addr} {H : Hp} {ds : List D} {vs : List V} {i : Int} {d : D} (r : RVs K φ H ds vs) (e : atI ds i = some d) : ∃ v, atI vs i = some v ∧ RV K φ H d v := by
  unfold atI at e ⊢
  rw [← r.length]
  obtain ⟨j, e1, e2⟩ := bindO e
  obtain ⟨v, e3, h⟩ := r.get e2
  exact ⟨v, by rw [e1]; exact e3, h⟩
section
variable {X : Cx} {W : WX} {a b : Expr} {Fa Fb : EF} {pos : Pos}
theorem ix_seqA : IxA X ixO := by
  intro value slice pins s σ H x y v u Q I rx ry h hs
  obtain ⟨φ, S, a, b, d, S', rh, ra, rb, e, k⟩ := h
  unfold ixO at e
  split at e
  · obtain ⟨d', e1, e2⟩ := mapOpt e
    cases e2
    obtain ⟨p, vs, rfl, sq, rs⟩ := ra.tup_
    obtain ⟨w, e3, rw'⟩ := atI_rel rs e1
    exact L2.ix_tup value slice pins s σ H _ y v u Q I rx ry ⟨p, vs, _, w, rfl, rb.int_, sq, e3, k φ H w .refl rh rw'⟩ hs
  · split at e
    · obtain ⟨d', e1, e2⟩ := mapOpt e
      cases e2
      rename_i z i hl
      exact L2.ix_str value slice pins s σ H _ y v u Q I rx ry ⟨toS z, i, d', ra.str_, rb.int_, by rw [toS_len, lim_eq]; exact hl, by simpa [toS] using e1, k φ H _ .refl rh rv_str⟩ hs
    · cases e
  · obtain ⟨d', e1, e2⟩ := mapOpt e
    cases e2
    obtain ⟨xs, e3, e4⟩ := bindO e1
    obtain ⟨p, vs, rfl, sq, rs⟩ := lstAt_ok rh e3 ra
    obtain ⟨w, e5, rw'⟩ := atI_rel rs e4
    exact L2.ix_list value slice pins s σ H _ y v u Q I rx ry ⟨p, vs, _, w, rfl, rb.int_, sq, e5, k φ H w .refl rh rw'⟩ hs
  · cases e
theorem ae_ixA {f : F2} (hr : IxA X f) (ha : AE X W a Fa) (hb : AE X W b Fb) (hs : PlainIx b := by exact fun _ _ => rfl) : AE X W (.Subscript a b pos) (eOp f Fa Fb) :=
  pe_mono (pe_ix hr ha hb hs) fun σ H Q h => op_run h
theorem ae_ix (ha : AE X W a Fa) (hb : AE X W b Fb) (hs : PlainIx b := by exact fun _ _ => rfl) : AE X W (.Subscript a b pos) (eOp ixO Fa Fb) := ae_ixA ix_seqA ha hb hs
end

/-! ### slices -/
def cutL {α : Type} (xs : List α) (lo hi : Option Int) : List α := (xs.drop (HT.sIx xs.length 0 lo)).take (HT.sIx xs.length xs.length hi - HT.sIx xs.length 0 lo)
abbrev PF := Env → Store → Res (Option Int)
def pNone : PF := fun _ S => .ok none S
def pSome (a : EF) : PF := fun ρ S => (a ρ S).bind fun x S1 => match x with
  | .int i => .ok (some i) S1
  | _ => .stuck
def sliceO (x : D) (lo hi : Option Int) (S : Store) : Option (D × Store) := match x with
  | .tup ds => some (.tup (cutL ds lo hi), S)
  | .str z => if z.length ≤ lim then some (.str (cutL z lo hi), S) else none
  | .ref n => (lstAt S n).map fun xs => (.ref S.length, S ++ [.lst (cutL xs lo hi)])
  | _ => none
def eSl (a : EF) (lo hi : PF) : EF := fun ρ S => (a ρ S).bind fun x S1 => (lo ρ S1).bind fun l S2 => (hi ρ S2).bind fun u S3 => .of (sliceO x l u S3)
theorem cutL_rel {K : KW} {φ : List Addr} {H : Hp} {ds : List D} {vs : List V} {lo hi : Option Int} (r : RVs K φ H ds vs) : RVs K φ H (cutL ds lo hi) (cutV vs lo hi) := by
  unfold cutL cutV
  rw [r.length]
  exact (r.drop _).take _
section
variable {X : Cx} {W : WX} {a : Expr} {lo hi : Option Expr} {Fa : EF} {Fl Fu : PF} {pos p2 : Pos}
def tFO (K : KW) (W : WX) (F : PF) : TO := fun σ H Q => ∃ φ ρ S, RH K φ H S ∧ RL K φ H σ ρ ∧ match F ρ S with
  | .ok o S' => ∀ φ' H', Ext K φ H φ' H' → RH K φ' H' S' → Q o H'
  | .exc x S' => ∀ φ' H' cv dx, Ext K φ H φ' H' → RH K φ' H' S' → RX K φ' H' x cv dx → W cv dx σ H'
  | .stuck => False
def AO (X : Cx) (W : WX) (e : Option Expr) (F : PF) : Prop := PO X e (tFO X.kw W F)
theorem po_mono {e : Option Expr} {t t' : TO} (h : PO X e t) (i : ∀ σ H Q, t' σ H Q → t σ H Q) : PO X e t' := ⟨fun pins s σ H Q I q => h.run pins s σ H Q I (i σ H Q q)⟩
theorem ao_none : AO X W none pNone := po_mono po_none fun σ H Q ⟨φ, ρ, S, rh, rl, f⟩ => f φ H .refl rh
theorem ao_some (ha : AE X W a Fa) : AO X W (some a) (pSome Fa) := by
  refine po_mono (po_some ha) fun σ H Q ⟨φ, ρ, S, rh, rl, f⟩ => ⟨φ, ρ, S, rh, rl, ?_⟩
  unfold pSome at f
  cases z : Fa ρ S with
  | ok d S1 =>
    rw [z] at f
    intro φ1 H1 v e1 rh1 rv1
    cases d with
    | int i => exact ⟨i, rv1.int_, f φ1 H1 e1 rh1⟩
    | _ => exact f.elim
  | exc x S1 => rw [z] at f; exact f
  | stuck => rw [z] at f; exact f
theorem ae_sl (ha : AE X W a Fa) (hl : AO X W lo Fl) (hu : AO X W hi Fu) : AE X W (.Subscript a (.Slice lo hi none p2) pos) (eSl Fa Fl Fu) := by
  refine pe_mono (pe_slice (sl_list.or (sl_tupA.or sl_str)) ha hl hu) fun σ H Q ⟨φ, ρ, S, rh, rl, f⟩ => ⟨φ, ρ, S, rh, rl, (Fin.bind f).imp ?_⟩
  rintro v H1 ⟨φ1, S1, d, e1, rh1, rv1, f1⟩
  refine ⟨φ1, ρ, S1, rh1, rl.ext e1, ?_⟩
  cases z : Fl ρ S1 with
  | stuck => rw [z] at f1; exact f1.elim
  | exc x S2 => rw [z] at f1; exact f1
  | ok l S2 =>
    rw [z] at f1
    intro φ2 H2 e2 rh2
    have f2 : Fin X.kw W φ2 H2 σ ((Fu ρ S2).bind fun u S3 => .of (sliceO d l u S3)) Q := f1.ext e2
    refine ⟨φ2, ρ, S2, rh2, (rl.ext e1).ext e2, ?_⟩
    cases z2 : Fu ρ S2 with
    | stuck => rw [z2] at f2; exact f2.elim
    | exc x S3 => rw [z2] at f2; exact f2
    | ok u S3 =>
      rw [z2] at f2
      intro φ3 H3 e3 rh3
      have f3 : Fin X.kw W φ3 H3 σ (.of (sliceO d l u S3)) Q := f2.ext e3
      obtain ⟨d', S', e, k⟩ := fin_of f3
      have rv := (rv1.ext e2).ext e3
      unfold sliceO at e
      split at e
      · cases e
        obtain ⟨p, vs, rfl, sq, rs⟩ := rv.tup_
        refine .inr (.inl ⟨p, vs, rfl, sq, fun hw => ?_, fun hw q hq => new_tup rh3 (cutL_rel rs) k q hq⟩)
        refine k φ3 H3 _ .refl rh3 (rv_tup sq ?_)
        have := cutL_rel (lo := l) (hi := u) rs
        have e4 : cutV vs l u = vs := by
          unfold cutV
          rw [hw.1, hw.2, List.drop_zero, Nat.sub_zero, List.take_length]
        rw [e4] at this
        exact this
      · split at e
        · cases e
          rename_i z hl
          refine .inr (.inr ⟨toS z, rv.str_, by rw [toS_len, lim_eq]; exact hl, ?_⟩)
          have : cutS (toS z) l u = toS (cutL z l u) := by
            unfold cutS cutL
            rw [toS_len]
          rw [this]
          exact k φ3 H3 _ .refl rh3 rv_str
        · cases e
      · obtain ⟨xs, e4, e5⟩ := mapOpt e
        cases e5
        obtain ⟨p, vs, rfl, sq, rs⟩ := lstAt_ok rh3 e4 rv
        exact .inl ⟨p, vs, rfl, sq, new_list rh3 (cutL_rel rs) k⟩
      · cases e
end
end Al

set_option Elab.async false
set_option linter.all false
set_option maxRecDepth 100000
set_option maxHeartbeats 1000000
/-! Al: statements, loops, comprehensions. -/
namespace Al
open PySem PySem.Spec PyProof.Rows L2
def sNx : SF := fun ρ S => .ok (.nx ρ) S
def sSeq (a b : SF) : SF := fun ρ S => (a ρ S).bind fun o S1 => match o with
  | .nx ρ' => b ρ' S1
  | o => .ok o S1
def sExpr (a : EF) : SF := fun ρ S => (a ρ S).bind fun _ S1 => .ok (.nx ρ) S1
def sRet (a : EF) : SF := fun ρ S => (a ρ S).bind fun d S1 => .ok (.ret d) S1
def sRetN : SF := fun _ S => .ok (.ret .non) S
def sBk : SF := fun ρ S => .ok (.bk ρ) S
def sCt : SF := fun ρ S => .ok (.ct ρ) S
def sIf (t : TF) (a b : SF) : SF := fun ρ S => (t ρ S).bind fun c S1 => if c = true then a ρ S1 else b ρ S1
def sSet (i : Nat) (a : EF) : SF := fun ρ S => (a ρ S).bind fun d S1 => .ok (.nx (ρ.set i (some d))) S1
theorem RL.set {K : KW} {φ : List Addr} {H : Hp} {σ : St} {ρ : Env} {d : D} {v : V} (i : Nat) (h : RL K φ H σ ρ) (r : RV K φ H d v) : RL K φ H (σ.set i (some v)) (ρ.set i (some d)) := by
  refine ⟨by simp [h.1], fun j d' e => ?_⟩
  by_cases hj : i = j
  · subst hj
    by_cases hl : i < ρ.length
    · rw [List.getElem?_set_self hl] at e
      cases e
      exact ⟨v, List.getElem?_set_self (by rw [h.1]; exact hl), r⟩
    · rw [List.getElem?_eq_none (by simpa using hl)] at e
      cases e
  · rw [List.getElem?_set_ne hj] at e
    obtain ⟨w, e1, r1⟩ := h.2 j d' e
    exact ⟨w, by rw [List.getElem?_set_ne hj]; exact e1, r1⟩
section
variable {X : Cx} {W : WX} {st : Stmt} {sts a b : List Stmt} {F G : SF} {e c : Expr} {Fe : EF} {Tc : TF} {pos : Pos}
theorem FinS.nx_of {K : KW} {φ : List Addr} {H : Hp} {σ : St} {ρ : Env} {S : Store} {E : Ends} (f : FinS K W φ H (.ok (.nx ρ) S) E) (rh : RH K φ H S) (rl : RL K φ H σ ρ) : E.nx σ H := f φ H σ .refl rh rl
theorem ass_nil : ASs X W [] sNx := pss_mono pss_nil fun D σ H ⟨φ, ρ, S, rh, rl, f⟩ => FinS.nx_of f rh rl
theorem ass_cons (h1 : AS X W st F) (h2 : ASs X W sts G) : ASs X W (st :: sts) (sSeq F G) := by
  refine pss_mono (pss_cons h1 h2) fun D σ H ⟨φ, ρ, S, rh, rl, f⟩ => ⟨φ, ρ, S, rh, rl, ?_⟩
  unfold sSeq at f
  cases z : F ρ S with
  | stuck => rw [z] at f; exact f
  | exc x S1 => rw [z] at f; exact f
  | ok o S1 =>
    rw [z] at f
    cases o with
    | nx ρ' => exact fun φ' H' σ' x rh' rl' => ⟨φ', ρ', S1, rh', rl', FinS.ext f x⟩
    | ret d => exact f
    | bk ρ' => exact f
    | ct ρ' => exact f
    | xc y ρ' => exact f
theorem ass_one (h1 : AS X W st F) : ASs X W [st] F := pss_one h1
theorem as_pass : AS X W (.Pass pos) sNx := ps_mono ps_pass fun D σ H ⟨φ, ρ, S, rh, rl, f⟩ => FinS.nx_of f rh rl
theorem as_break : AS X W (.Break pos) sBk := ps_mono ps_break fun D σ H ⟨φ, ρ, S, rh, rl, f⟩ => f φ H σ .refl rh rl
theorem as_continue : AS X W (.Continue pos) sCt := ps_mono ps_continue fun D σ H ⟨φ, ρ, S, rh, rl, f⟩ => f φ H σ .refl rh rl
theorem as_expr (he : AE X W e Fe) (hs : swapsWith e none pos.line X.env = pure false := by rfl) : AS X W (.Expr e pos) (sExpr Fe) := by
  refine ps_mono (ps_expr he hs) fun D σ H ⟨φ, ρ, S, rh, rl, f⟩ => ⟨φ, ρ, S, rh, rl, (Fin.bindS trivial f).imp ?_⟩
  rintro v H1 ⟨φ1, S1, d, e1, rh1, rv1, f1⟩
  exact FinS.nx_of f1 rh1 (rl.ext e1)
theorem as_ret (he : AE X W e Fe) : AS X W (.Return (some e) pos) (sRet Fe) := by
  refine ps_mono (ps_ret he) fun D σ H ⟨φ, ρ, S, rh, rl, f⟩ => ⟨φ, ρ, S, rh, rl, (Fin.bindS trivial f).imp ?_⟩
  rintro v H1 ⟨φ1, S1, d, e1, rh1, rv1, f1⟩
  exact f1 φ1 H1 v .refl rh1 rv1
theorem as_retN : AS X W (.Return none pos) sRetN := ps_mono ps_retN fun D σ H ⟨φ, ρ, S, rh, rl, f⟩ => f φ H _ .refl rh rv_non
theorem as_if (hc : AT X W c Tc) (ha : ASs X W a F) (hb : ASs X W b G) : AS X W (.If c a b pos) (sIf Tc F G) := by
  refine ps_mono (ps_if hc ha hb) fun D σ H ⟨φ, ρ, S, rh, rl, f⟩ => ⟨φ, ρ, S, rh, rl, (FinT.bindS f).imp ?_⟩
  rintro k H1 ⟨φ1, S1, e1, rh1, f1⟩
  cases k with
  | true => rw [if_pos rfl] at f1 ⊢; exact ⟨φ1, ρ, S1, rh1, rl.ext e1, f1⟩
  | false => rw [if_neg Bool.false_ne_true] at f1 ⊢; exact ⟨φ1, ρ, S1, rh1, rl.ext e1, f1⟩
theorem as_set (i : Nat) {x : Str} {pos' : Pos} (hN : X.N.Nodup) (he : AE X W e Fe) (hi : X.N[i]? = some x := by rfl) (hx : Loc X.env.scope x := by first | exact .inl rfl | exact .inr rfl) (hs : swapsWith e (some (.Name x pos')) pos.line X.env = pure false := by rfl)
    (hf : X.fn x = true ∨ X.env.scope.names.lookup x = some .local := by first | exact .inl rfl | exact .inr rfl | assumption) : AS X W (.Assign [.Name x pos'] e pos) (sSet i Fe) := by
  refine ps_mono (ps_set hN hi hx he hs hf) fun D σ H ⟨φ, ρ, S, rh, rl, f⟩ => ⟨φ, ρ, S, rh, rl, (Fin.bindS trivial f).imp ?_⟩
  rintro v H1 ⟨φ1, S1, d, e1, rh1, rv1, f1⟩
  exact FinS.nx_of f1 rh1 ((rl.ext e1).set i rv1)
/-- code that is not met -/
def sNever : SF := fun _ _ => .stuck
theorem as_never : AS X W st sNever := ps_mono ps_never fun D σ H ⟨φ, ρ, S, rh, rl, f⟩ => f
theorem ass_never : ASs X W sts sNever := pss_mono pss_never fun D σ H ⟨φ, ρ, S, rh, rl, f⟩ => f
end

/-! ### targets: a name, or a tuple of names -/
inductive Tg where
  | nm (i : Nat) | tp (is : List Nat)
def setAll : List Nat → List D → Env → Env
  | i :: is, d :: ds, ρ => setAll is ds (ρ.set i (some d))
  | _, _, ρ => ρ
def tgD : Tg → D → Env → Option Env
  | .nm i, d, ρ => some (ρ.set i (some d))
  | .tp is, .tup ds, ρ => if ds.length = is.length then some (setAll is ds ρ) else none
  | _, _, _ => none
def gNames : List Nat → TGs
  | [] => gNil
  | i :: is => gCons (gName i) (gNames is)
def tgV (K : KW) : Tg → TG
  | .nm i => gName i
  | .tp is => gTup K is.length (gNames is)
def Tg.slots : Tg → List Nat
  | .nm i => [i]
  | .tp is => is
/-- the target's judgement -/
def AG (X : Cx) (tg : Expr) (t : Tg) : Prop := PG X tg (tgV X.kw t)
theorem wipe_set {σ : St} {i : Nat} {v : Option V} : ∀ {vs : List Nat}, i ∈ vs → wipe (σ.set i v) vs = wipe σ vs
  | j :: vs, h => by
    unfold wipe
    by_cases hj : j = i
    · subst hj
      by_cases hm : j ∈ vs
      · rw [wipe_set hm]
      · have : ∀ (vs : List Nat) (σ : St), j ∉ vs → (wipe (σ.set j v) vs) = (wipe σ vs).set j v := by
          intro vs
          induction vs with
          | nil => intro σ _; rfl
          | cons k ks ih =>
            intro σ hk
            unfold wipe
            rw [ih σ fun z => hk (List.mem_cons_of_mem _ z)]
            rw [List.set_comm _ _ (fun z => hk (by rw [z]; exact List.mem_cons_self))]
        rw [this vs σ hm, List.set_set]
    · rw [wipe_set (by
        rcases List.mem_cons.mp h with z | z
        · exact absurd z.symm hj
        · exact z)]
section
variable {X : Cx} {K : KW} {φ : List Addr} {H : Hp}
theorem gNames_run : ∀ (is : List Nat) (ds : List D) (vs : List V) (σ : St) (ρ : Env) (Q : St → Hp → Prop), ds.length = is.length → RVs K φ H ds vs → RL K φ H σ ρ →
    (∀ σ', RL K φ H σ' (setAll is ds ρ) → (∀ ws, (∀ i ∈ is, i ∈ ws) → wipe σ' ws = wipe σ ws) → Q σ' H) → gNames is vs σ H Q
  | [], ds, vs, σ, ρ, Q, hl, r, rl, k => by
    cases ds with
    | nil =>
      cases r.nil_iff
      exact ⟨rfl, k σ rl fun _ _ => rfl⟩
    | cons _ _ => cases hl
  | i :: is, ds, vs, σ, ρ, Q, hl, r, rl, k => by
    cases ds with
    | nil => cases hl
    | cons d ds =>
      obtain ⟨v, rs, rfl, h1, h2⟩ := r.cons_iff
      refine ⟨v, rs, rfl, ?_⟩
      show gNames is rs (σ.set i (some v)) H Q
      refine gNames_run is ds rs _ (ρ.set i (some d)) Q (by simpa using hl) h2 (rl.set i h1) fun σ' rl' hw => k σ' rl' fun ws hws => ?_
      rw [hw ws fun j hj => hws j (List.mem_cons_of_mem _ hj)]
      exact wipe_set (hws i List.mem_cons_self)
theorem tgV_run {t : Tg} {d : D} {v : V} {σ : St} {ρ ρ' : Env} {Q : St → Hp → Prop} (e : tgD t d ρ = some ρ') (r : RV K φ H d v) (rl : RL K φ H σ ρ)
    (k : ∀ σ', RL K φ H σ' ρ' → (∀ ws, (∀ i ∈ t.slots, i ∈ ws) → wipe σ' ws = wipe σ ws) → Q σ' H) : tgV K t v σ H Q := by
  cases t with
  | nm i =>
    cases e
    exact k _ (rl.set i r) fun ws hw => wipe_set (hw i (by simp [Tg.slots]))
  | tp is =>
    cases d with
    | tup ds =>
      simp only [tgD] at e
      split at e
      · cases e
        rename_i hl
        obtain ⟨p, vs, rfl, sq, rs⟩ := r.tup_
        exact ⟨p, vs, rfl, sq, by rw [← rs.length]; exact hl, gNames_run is ds vs σ ρ Q hl rs rl k⟩
      · cases e
    | _ => cases e
variable {pos : Pos}
theorem ag_nm (i : Nat) {x : Str} (hN : X.N.Nodup) (hi : X.N[i]? = some x := by rfl) (hx : Loc X.env.scope x := by first | exact .inl rfl | exact .inr rfl) (hf : X.fn x = true ∨ X.env.scope.names.lookup x = some .local := by first | exact .inl rfl | exact .inr rfl | assumption) : AG X (.Name x pos) (.nm i) := pg_name hN hi hx hf
theorem ag_tp {es : List Expr} {k : Nat} {is : List Nat} (hc : X.calm = true) (h : PGs X es (gNames is)) (hn : (assignEach es X.env).length = is.length := by rfl) (hst : (assignEach es X.env).findIdx? (·.1) = none := by rfl) : AG X (.Tuple es k pos) (.tp is) := pg_tup hc h hn hst
end
/-- target = value -/
def sAsg (t : Tg) (a : EF) : SF := fun ρ S => (a ρ S).bind fun d S1 => match tgD t d ρ with
  | some ρ' => .ok (.nx ρ') S1
  | none => .stuck
theorem as_asg {X : Cx} {W : WX} {tg e : Expr} {Fe : EF} {t : Tg} {pos : Pos} (he : AE X W e Fe) (hg : AG X tg t) (hs : swapsWithSole [tg] e pos.line X.env = pure false := by rfl) (hw : swappedStores [tg] e X.env = pure none := by rfl)
    (h1 : (assignEach [tg] X.env).map (·.2) = [assign tg X.env] := by rfl) : AS X W (.Assign [tg] e pos) (sAsg t Fe) := by
  refine ps_mono (ps_asg he hg hs hw h1) fun D σ H ⟨φ, ρ, S, rh, rl, f⟩ => ⟨φ, ρ, S, rh, rl, (Fin.bindS trivial f).imp ?_⟩
  rintro v H1 ⟨φ1, S1, d, e1, rh1, rv1, f1⟩
  split at f1
  · rename_i ρ' er
    exact tgV_run er rv1 (rl.ext e1) fun σ' rl' _ => FinS.nx_of f1 rh1 rl'
  · exact f1.elim
/-- a, b = x, y with plain local names -/
def sPar (i j : Nat) (a : AF) : SF := fun ρ S => (a ρ S).bind fun ds S1 => match ds with
  | [x, y] => .ok (.nx ((ρ.set i (some x)).set j (some y))) S1
  | _ => .stuck
theorem FinA.bindS {K : KW} {W : WX} {φ : List Addr} {H : Hp} {σ : St} {r : Res (List D)} {g : List D → Store → Res Out} {E : Ends} (h : FinS K W φ H (r.bind g) E) : FinA K W φ H σ r fun v H1 => AftA K φ H v H1 fun φ1 d S1 => FinS K W φ1 H1 (g d S1) E := by
  cases r with
  | ok d S => exact fun φ' H' v x y z => ⟨φ', S, d, x, y, z, h.ext x⟩
  | exc x S => exact fun φ' H' cv dx => h φ' H' cv dx σ
  | stuck => exact h
theorem as_par {X : Cx} {W : WX} {i j : Nat} {x y : Str} {a b : Expr} {Fr : AF} {px py pt pos : Pos} {kt k2 pt2} (hc : X.calm = true) (hN : X.N.Nodup) (ha : AA X W [a, b] Fr) (hi : X.N[i]? = some x := by rfl) (hj : X.N[j]? = some y := by rfl) (hij : i ≠ j := by decide)
    (hx : X.env.scope.names.lookup x = some .local := by rfl) (hy : X.env.scope.names.lookup y = some .local := by rfl)
    (hw : swappedStores [.Tuple [.Name x px, .Name y py] kt pt] (.Tuple [a, b] k2 pt2) X.env = pure (some [x, y]) := by rfl)
    (hs : swapsWithSole [.Tuple [.Name x px, .Name y py] kt pt] (.Tuple [a, b] k2 pt2) pos.line X.env = pure false := by rfl) :
    AS X W (.Assign [.Tuple [.Name x px, .Name y py] kt pt] (.Tuple [a, b] k2 pt2) pos) (sPar i j Fr) := by
  refine ps_mono (ps_par hc hN hi hj hij hx hy ha hw hs) fun D σ H ⟨φ, ρ, S, rh, rl, f⟩ => ⟨φ, ρ, S, rh, rl, (FinA.bindS f).imp ?_⟩
  rintro vs H1 ⟨φ1, S1, ds, e1, rh1, rv1, f1⟩
  split at f1
  · obtain ⟨v, w, rfl, r1, r2⟩ := rvs2 rv1
    exact ⟨v, w, rfl, FinS.nx_of f1 rh1 (((rl.ext e1).set i r1).set j r2)⟩
  · exact f1.elim
/-- name += e and so on -/
def sAug (i : Nat) (f : F2) (a : EF) : SF := fun ρ S => match ρ[i]? with
  | some (some x) => (a ρ S).bind fun y S1 => (Res.of (f x y S1)).bind fun z S2 => .ok (.nx (ρ.set i (some z))) S2
  | _ => .stuck
theorem as_aug (i : Nat) {X : Cx} {W : WX} {x : Str} {e : Expr} {Fe : EF} {op : Operator} {f : F2} {pos pos' : Pos} (hN : X.N.Nodup) (ho : OpA X (inplaceOp op) f) (he : AE X W e Fe) (hi : X.N[i]? = some x := by rfl) (hx : Loc X.env.scope x := by first | exact .inl rfl | exact .inr rfl)
    (hf : X.fn x = true ∨ X.env.scope.names.lookup x = some .local := by first | exact .inl rfl | exact .inr rfl | assumption) : AS X W (.AugAssign (.Name x pos') op e pos) (sAug i f Fe) := by
  refine ps_mono (ps_aug hN hi hx he ho hf) fun D σ H ⟨φ, ρ, S, rh, rl, fi⟩ => ?_
  unfold sAug at fi
  split at fi
  · rename_i d ed
    obtain ⟨v, e1, r1⟩ := rl.2 i d ed
    refine ⟨v, e1, φ, ρ, S, rh, rl, (Fin.bindS trivial fi).imp ?_⟩
    rintro y H1 ⟨φ1, S1, d1, x1, rh1, rv1, f1⟩
    have f1' : Fin X.kw W φ1 H1 σ (.of (f d d1 S1)) _ := Fin.bindS trivial f1
    obtain ⟨d2, S2, e2, k2⟩ := fin_of f1'
    refine ⟨φ1, S1, d, d1, d2, S2, rh1, r1.ext x1, rv1, e2, fun φ2 H2 z x2 rh2 rv2 => ?_⟩
    obtain ⟨φ3, S3, d3, x3, rh3, rv3, f3⟩ := k2 φ2 H2 z x2 rh2 rv2
    exact FinS.nx_of f3 rh3 ((((rl.ext x1).ext x3)).set i rv3)
  · exact fi.elim
def iaddO : F2
  | .int i, .int j, S => some (.int (i + j), S)
  | .str a, .str b, S => if a.length + b.length ≤ lim then some (.str (a ++ b), S) else none
  | _, _, _ => none
def isubO : F2
  | .int i, .int j, S => some (.int (i - j), S)
  | _, _, _ => none
theorem op_iaddA {X : Cx} : OpA X (inplaceOp .Add) iaddO := by
  intro pins s σ H x y v u Q I rx ry h
  obtain ⟨φ, S, a, b, d, S', rh, ra, rb, e, k⟩ := h
  unfold iaddO at e
  split at e
  · cases e; exact L2.iop_add pins s σ H x y v u Q I rx ry ⟨_, _, ra.int_, rb.int_, k φ H _ .refl rh rv_int⟩
  · split at e
    · cases e
      rename_i hl
      refine L2.iop_add_str pins s σ H x y v u Q I rx ry ⟨_, _, ra.str_, rb.str_, by rw [toS_len, toS_len, lim_eq]; exact hl, ?_⟩
      rw [toS_app]
      exact k φ H _ .refl rh rv_str
    · cases e
  · cases e
theorem op_isubA {X : Cx} : OpA X (inplaceOp .Sub) isubO := by
  intro pins s σ H x y v u Q I rx ry h
  obtain ⟨φ, S, a, b, d, S', rh, ra, rb, e, k⟩ := h
  unfold isubO at e
  split at e
  · cases e; exact L2.iop_sub pins s σ H x y v u Q I rx ry ⟨_, _, ra.int_, rb.int_, k φ H _ .refl rh rv_int⟩
  · cases e

/-! ### what is walked -/
structure Src where
  fuel : Nat
  nxt : Nat → Store → Option (Option D)
abbrev IF := Env → Store → Res Src
def SrcOk (K : KW) (φ : List Addr) (H : Hp) (J : It) (nxt : Nat → Store → Option (Option D)) : Prop :=
  ∀ i φ1 H1 S1, Ext K φ H φ1 H1 → RH K φ1 H1 S1 →
    (∀ d, nxt i S1 = some (some d) → J.go i H1 ∧ ∀ x H', J.yld i H1 x H' → Ext K φ1 H1 φ1 H' ∧ RH K φ1 H' S1 ∧ RV K φ1 H' d x) ∧ (nxt i S1 = some none → J.stop i H1)
def tFI (K : KW) (W : WX) (F : IF) : TI := fun σ H R => ∃ φ ρ S, RH K φ H S ∧ RL K φ H σ ρ ∧ match F ρ S with
  | .ok src S' => ∀ φ' H' J, Ext K φ H φ' H' → RH K φ' H' S' → SrcOk K φ' H' J src.nxt → R J H'
  | .exc x S' => ∀ φ' H' cv dx, Ext K φ H φ' H' → RH K φ' H' S' → RX K φ' H' x cv dx → W cv dx σ H'
  | .stuck => False
def AI (X : Cx) (W : WX) (tg iter : Expr) (F : IF) : Prop := PI X tg iter (tFI X.kw W F)
theorem pi_mono {X : Cx} {tg iter : Expr} {t t' : TI} (h : PI X tg iter t) (i : ∀ σ H R, t' σ H R → t σ H R) : PI X tg iter t' := ⟨fun pins s σ H R I q => h.run pins s σ H R I (i σ H R q)⟩
/-- the turns -/
def forF (nxt : Nat → Store → Option (Option D)) (t : Tg) (body : SF) : Nat → Nat → Env → Store → Res Out
  | 0, _, _, _ => .stuck
  | n + 1, i, ρ, S => match nxt i S with
    | none => .stuck
    | some none => .ok (.nx ρ) S
    | some (some d) => match tgD t d ρ with
      | none => .stuck
      | some ρ1 => (body ρ1 S).bind fun o S1 => match o with
        | .nx ρ2 => forF nxt t body n (i + 1) ρ2 S1
        | .ct ρ2 => forF nxt t body n (i + 1) ρ2 S1
        | .bk ρ2 => .ok (.nx ρ2) S1
        | .ret d => .ok (.ret d) S1
        | .xc x ρ2 => .ok (.xc x ρ2) S1
def sFor (it : IF) (t : Tg) (body : SF) : SF := fun ρ S => (it ρ S).bind fun src S1 => forF src.nxt t body src.fuel 0 ρ S1
section
variable {X : Cx} {W : WX} {tg iter : Expr} {body : List Stmt} {Fi : IF} {t : Tg} {Fb : SF} {pos : Pos}
theorem as_for (hp : PassesOwn (model X.prog X.w) X.A X.env X.xe) (hc : X.calm = true) (hi : AI X W tg iter Fi) (hg : AG X tg t) (hb : ASs X W body Fb) (hs : ∀ x, foldedSetIterable iter X.env x = pure x := by intro _; rfl) : AS X W (.For tg iter body [] pos) (sFor Fi t Fb) := by
  refine ps_mono (ps_for hp hc hi hg hb hs) fun D σ H ⟨φ, ρ, S, rh, rl, f⟩ => ⟨φ, ρ, S, rh, rl, ?_⟩
  unfold sFor at f
  cases z : Fi ρ S with
  | stuck => rw [z] at f; exact f.elim
  | exc x S1 => rw [z] at f; exact fun φ' H' cv dx => f φ' H' cv dx σ
  | ok src S1 =>
    rw [z] at f
    intro φ' H' J x rh' ok
    have f : FinS X.kw W φ H (forF src.nxt t Fb src.fuel 0 ρ S1) D := f
    refine ⟨fun i m σ1 H1 => ∃ φ1 ρ1 S1, Ext X.kw φ' H' φ1 H1 ∧ RH X.kw φ1 H1 S1 ∧ RL X.kw φ1 H1 σ1 ρ1 ∧ FinS X.kw W φ1 H1 (forF src.nxt t Fb m i ρ1 S1) D, ⟨src.fuel, φ', ρ, S1, .refl, rh', rl.ext x, f.ext x⟩, ?_⟩
    rintro i m σ1 H1 ⟨φ1, ρ1, S2, x1, rh1, rl1, f1⟩
    cases m with
    | zero => exact f1.elim
    | succ n =>
      have o := ok i φ1 H1 S2 x1 rh1
      unfold forF at f1
      split at f1
      · exact f1.elim
      · rename_i e
        exact .inl ⟨o.2 e, FinS.nx_of f1 rh1 rl1⟩
      · rename_i d e
        have o := o.1 d e
        refine .inr ⟨o.1, fun σ' H'' => ∃ φ1 ρ1 S1, Ext X.kw φ' H' φ1 H'' ∧ RH X.kw φ1 H'' S1 ∧ RL X.kw φ1 H'' σ' ρ1 ∧ FinS X.kw W φ1 H'' (forF src.nxt t Fb n (i + 1) ρ1 S1) D, fun σ' H'' h => ⟨n, Nat.lt_succ_self n, h⟩, fun xv H2 y => ?_⟩
        obtain ⟨x2, rh2, rv2⟩ := o.2 xv H2 y
        split at f1
        · exact f1.elim
        · rename_i ρ2 er
          refine tgV_run er rv2 (rl1.ext x2) fun σ3 rl3 _ => ⟨φ1, ρ2, S2, rh2, rl3, ?_⟩
          have f2 := f1.ext x2
          cases zb : Fb ρ2 S2 with
          | stuck => rw [zb] at f2; exact f2.elim
          | exc xx S3 => rw [zb] at f2; exact f2
          | ok ou S3 =>
            rw [zb] at f2
            cases ou with
            | nx ρ3 => exact fun φ4 H4 σ4 x4 rh4 rl4 => ⟨φ4, ρ3, S3, (x1.trans x2).trans x4, rh4, rl4, FinS.ext f2 x4⟩
            | ct ρ3 => exact fun φ4 H4 σ4 x4 rh4 rl4 => ⟨φ4, ρ3, S3, (x1.trans x2).trans x4, rh4, rl4, FinS.ext f2 x4⟩
            | bk ρ3 => exact f2
            | ret d => exact f2
            | xc y ρ3 => exact f2
end

/-! ### while -/
def whileF (c : TF) (body : SF) : Nat → Env → Store → Res Out
  | 0, _, _ => .stuck
  | n + 1, ρ, S => (c ρ S).bind fun b S1 => if b = true then (body ρ S1).bind fun o S2 => match o with
      | .nx ρ2 => whileF c body n ρ2 S2
      | .ct ρ2 => whileF c body n ρ2 S2
      | .bk ρ2 => .ok (.nx ρ2) S2
      | .ret d => .ok (.ret d) S2
      | .xc x ρ2 => .ok (.xc x ρ2) S2
    else .ok (.nx ρ) S1
/-- at most so many turns -/
abbrev turns : Nat := 1000000
def sWhile (c : TF) (body : SF) : SF := fun ρ S => whileF c body turns ρ S
theorem as_while {X : Cx} {W : WX} {c : Expr} {body : List Stmt} {Tc : TF} {Fb : SF} {pos : Pos} (hp : PassesOwn (model X.prog X.w) X.A X.env X.xe) (hc : AT X W c Tc) (hb : ASs X W body Fb) : AS X W (.While c body [] pos) (sWhile Tc Fb) := by
  refine ps_mono (ps_while hp hc hb) fun D σ H ⟨φ, ρ, S, rh, rl, f⟩ => ?_
  refine ⟨fun m σ1 H1 => ∃ φ1 ρ1 S1, RH X.kw φ1 H1 S1 ∧ RL X.kw φ1 H1 σ1 ρ1 ∧ FinS X.kw W φ1 H1 (whileF Tc Fb m ρ1 S1) D, ⟨turns, φ, ρ, S, rh, rl, f⟩, ?_⟩
  rintro m σ1 H1 ⟨φ1, ρ1, S1, rh1, rl1, f1⟩
  cases m with
  | zero => exact f1.elim
  | succ n =>
    unfold whileF at f1
    refine ⟨φ1, ρ1, S1, rh1, rl1, (FinT.bindS f1).imp ?_⟩
    rintro k H2 ⟨φ2, S2, x2, rh2, f2⟩
    cases k with
    | false => rw [if_neg Bool.false_ne_true] at f2 ⊢; exact FinS.nx_of f2 rh2 (rl1.ext x2)
    | true =>
      rw [if_pos rfl] at f2 ⊢
      refine ⟨fun σ' H'' => ∃ φ1 ρ1 S1, RH X.kw φ1 H'' S1 ∧ RL X.kw φ1 H'' σ' ρ1 ∧ FinS X.kw W φ1 H'' (whileF Tc Fb n ρ1 S1) D, fun σ' H'' h => ⟨n, Nat.lt_succ_self n, h⟩, φ2, ρ1, S2, rh2, rl1.ext x2, ?_⟩
      cases zb : Fb ρ1 S2 with
      | stuck => rw [zb] at f2; exact f2.elim
      | exc xx S3 => rw [zb] at f2; exact f2
      | ok ou S3 =>
        rw [zb] at f2
        cases ou with
        | nx ρ3 => exact fun φ4 H4 σ4 x4 rh4 rl4 => ⟨φ4, ρ3, S3, rh4, rl4, FinS.ext f2 x4⟩
        | ct ρ3 => exact fun φ4 H4 σ4 x4 rh4 rl4 => ⟨φ4, ρ3, S3, rh4, rl4, FinS.ext f2 x4⟩
        | bk ρ3 => exact f2
        | ret d => exact f2
        | xc y ρ3 => exact f2
end Al

set_option Elab.async false
set_option linter.all false
set_option maxRecDepth 100000
set_option maxHeartbeats 1000000
/-! Al: what is walked. -/
namespace Al
open PySem PySem.Spec PyProof.Rows L2
open Sem (wp)
/-! ### enumerate(v) -/
theorem meets_enum1 {v : Value} {o : Obj} {H : Heap → Prop} (B : Begins v o H) :
    Meets (Builtin.«enumerate.__new__» ⟨[.type "enumerate", v], []⟩) (fun _ R s => H s.heap ∧
      R (.ok (.ret (.ref (s.heap.push o).objs.size))) { s with heap := (s.heap.push o).push { cls := .type "enumerate", data := .fields #[.none, .bool false, .ref s.heap.objs.size, rawInt 0, .none, .none] } }) :=
  .of_wp fun prog w A R s h => by
    obtain ⟨hp, g, d, tk, os⟩ := s; obtain ⟨h1, h⟩ := h
    have hsub := sub_enumerate
    have q1 : ∀ {A' : Around} {E : Value → Shared → Prop} {Q : Value → Shared → Prop}, Q (.ref hp.objs.size) ⟨hp.push o, g, d, tk, os⟩ → wpAny (model prog w) A' (pyIter v) Q E ⟨hp, g, d, tk, os⟩ :=
      fun q => B.iter prog w _ _ ⟨hp, g, d, tk, os⟩ _ h1 q
    wp_walk using q1
    refine wpAny_stack_any fun st => wpAny_pure ?_
    split
    · rename_i c _ _ _ _ _
      cases (c == Value.type "enumerate")
      · wp_walk using q1
        exact ⟨_, rfl, h⟩
      · wp_walk using q1
        exact ⟨_, rfl, h⟩
    · wp_walk using q1
      exact ⟨_, rfl, h⟩
theorem enum_begins1 {prog : Program} {w : World} {A : Around} {E : Value → Shared → Prop} {s : Shared} {v : Value} {o : Obj} {H : Heap → Prop} {Q : Value → Shared → Prop} (B : Begins v o H) (h1 : H s.heap)
    (h : ∀ h', IsEnum h' (s.heap.objs.size + 1) s.heap.objs.size 0 .none → h'.get? s.heap.objs.size = some o → h'.objs.size = s.heap.objs.size + 2 →
      (∀ b o, s.heap.get? b = some o → h'.get? b = some o) → Q (.ref (s.heap.objs.size + 1)) { s with heap := h' }) :
    wpAny (model prog w) A (call (.type "enumerate") [v]) Q E s := by
  refine callType_new F.called_enumerate (by decide) (F.typeCall_enumerate_1 _) (F.newCall_enumerate_1 _) (fun obj => F.args_object_init_2 obj _) F.entry_enumerate_new
    (meets_enum1 B) ⟨h1, ?_⟩
  have hz : (s.heap.push o).objs.size = s.heap.objs.size + 1 := Heap.size_push ..
  show _ ∧ _
  rw [hz]
  have he : IsEnum ((s.heap.push o).push { cls := .type "enumerate", data := .fields #[.none, .bool false, .ref s.heap.objs.size, rawInt 0, .none, .none] }) (s.heap.objs.size + 1) s.heap.objs.size 0 .none := by
    have := Heap.get?_push_size (s.heap.push o) (o := { cls := .type "enumerate", data := .fields #[.none, .bool false, .ref s.heap.objs.size, rawInt 0, .none, .none] }) rfl
    rw [hz] at this; exact this
  refine ⟨⟨_, he, rfl⟩, h _ he (Heap.get?_push_of_some _ (Heap.get?_push_size _ B.free)) (by rw [Heap.size_push, hz]) fun b o x => Heap.get?_push_of_some _ (Heap.get?_push_of_some _ x)⟩

def IteT (K : PySem.W.Frag) (a : Addr) : It :=
  ⟨fun i H => ∃ xs x, SqT K H a xs ∧ xs[i]? = some x, fun i H v H' => ∃ T x, v = .ref T ∧ H T = none ∧ H' = upd H T (.tup [.int (i : Nat), x]) ∧ ∀ xs, SqT K H a xs → xs[i]? = some x, fun i H => ∃ xs, SqT K H a xs ∧ xs.length = i⟩
def IteS (z : Str) : It :=
  ⟨fun i H => i < z.cps.size, fun i H v H' => ∃ T c, v = .ref T ∧ H T = none ∧ H' = upd H T (.tup [.int (i : Nat), .str ⟨#[c]⟩]) ∧ z.cps[i]? = some c, fun i H => z.cps.size = i⟩
theorem turn_enumT {P : Program} {w : World} {K : PySem.W.Frag} {elts : List Expr} {kk : Nat} {tpos : Pos} (a e it : Addr) :
    Turn P w K (.Tuple elts kk tpos) (IteT K a) [e, it] e (fun i h => (∃ old, IsEnum h e it ((i : Nat) : Int) old) ∧ h.IsTupleIter it a i ∧ e ≠ it ∧ a ≠ it ∧ e ≠ a) where
  mem := by simp
  obj := fun i h st b hb => by
    obtain ⟨⟨old, he⟩, ⟨o, ho, hc, hd⟩, _⟩ := st
    have e' : b = e ∨ b = it := by simpa using hb
    rcases e' with z | z
    · rw [z]; exact ⟨_, he, fun v q => nomatch q⟩
    · rw [z]; exact ⟨o, ho, fun v q => by rw [hd] at q; cases q⟩
  keep := fun i h h' st k => let ⟨⟨old, he⟩, hi, hne⟩ := st; ⟨⟨old, k e (by simp) _ he⟩, hi.at fun o q => k it (by simp) o q, hne⟩
  item := by
    intro X hP hw hK hc i pins s σ H E I hf st hg
    subst hP hw hK
    obtain ⟨⟨old, he⟩, hit, hne, nai, nea⟩ := st
    obtain ⟨xs, x, hq, hx⟩ := hg
    obtain ⟨its, rv, p, hz⟩ := I.tuple hq
    obtain ⟨u, hu, ru⟩ := rv.get hx
    have hel : e < s.heap.objs.size := Heap.lt_size he
    have hil : it < s.heap.objs.size := by obtain ⟨_, q, _⟩ := hit; exact Heap.lt_size q
    have Dr := Draws.tuple (prog := X.prog) (w := X.w) (A := X.A.in1) (show X.A.in1.handled = none from I.ok.hd hc) it a nai its.toArray
    have hi : i < its.toArray.size := by
      have := (List.getElem?_eq_some_iff.mp hu).1
      simpa using this
    refine wpAny_pyNext_enum_itemD Dr he ⟨hit, p⟩ hi hne (by simp only [List.mem_cons, List.not_mem_nil, or_false, not_or]; exact ⟨hne, nea⟩) fun x' h' tk hP ho hit' hT hsz hk => ?_
    have hx' : x' = u := by
      have : its.toArray[i]? = some u := by simpa using hu
      exact Option.some.inj (hP.symm.trans this)
    subst hx'
    refine ⟨_, rfl, wpAny_letOwnedTupleGo_enum (s := { s with heap := h', toks := tk + 1 }) ho fun h'' he' sb => ?_⟩
    have hT2 : h''.get? s.heap.objs.size = some { cls := .type "tuple", data := .seq #[.int i tk, x'] } := (sb.2 _ (Nat.ne_of_gt hel)).trans hT
    have new : ObjOk X.prog X.w (upd H s.heap.objs.size (.tup [.int (i : Nat), x])) h'' s.heap.objs.size (.tup [.int (i : Nat), x]) :=
      ⟨by show 2 ≤ sizeLine; decide, [.int i tk, x'], .cons ⟨_, rfl⟩ (.cons ru .nil), ⟨_, hT2, rfl, _, rfl⟩⟩
    have I1 : Inv X pins σ (upd H s.heap.objs.size (.tup [.int (i : Nat), x])) { s with heap := h'', toks := tk + 1 } :=
      I.turnedNew (ch := [e, it]) (fun b ob hb q => (sb.2 b (fun z => hb (by simp [z]))).trans (hk b ob (fun z => hb (by simp [z])) (fun z => hb (by simp [z])) q)) hf (Nat.le_refl _) new
    refine ⟨.ref s.heap.objs.size, _, I1, rfl, ⟨_, x, rfl, I.hok.fresh (Nat.le_refl _), rfl, fun ys hy => by rw [I.tuple_inj hy hq]; exact hx⟩, ⟨⟨x', ?_⟩, hit'.1.at fun o q => (sb.2 it (Ne.symm hne)).trans q, hne, nai, nea⟩, fun b hb => ?_⟩
    · have e1 : ((i + 1 : Nat) : Int) = (i : Int) + 1 := by omega
      rw [e1]; exact he'
    · have hb' : b < s.heap.objs.size := by
        have e' : b = e ∨ b = it := by simpa using hb
        rcases e' with z | z
        · rw [z]; exact hel
        · rw [z]; exact hil
      rw [upd_ne (Nat.ne_of_lt hb')]
      exact (hf b hb).1
  done := by
    intro X hP hw hK hc i pins s σ H E I hf st hg
    subst hP hw hK
    obtain ⟨⟨old, he⟩, hit, hne, nai, nea⟩ := st
    obtain ⟨xs, hq, hx⟩ := hg
    obtain ⟨its, rv, p, hz⟩ := I.tuple hq
    obtain ⟨f0, f1, f2, f3, f4, f5⟩ := hf it (by simp)
    have hl := rv.length
    have Dr := Draws.tuple (prog := X.prog) (w := X.w) (A := X.A.in1) (show X.A.in1.handled = none from I.ok.hd hc) it a nai its.toArray
    have hn : its.toArray.size = i := by simp; omega
    exact wpAny_pyNext_enum_endD Dr he ⟨by rw [hn]; exact hit, p⟩ fun h' eb => ⟨rfl, I.turned (t' := s.toks) (fun b o hb q => eb b o hb q) f0 f1 f3 f4 f5⟩
  self := fun A i s Q E st h => let ⟨⟨_, he⟩, _⟩ := st; wpAny_pyIter_enum he h
theorem turn_enumS {P : Program} {w : World} {K : PySem.W.Frag} {elts : List Expr} {kk : Nat} {tpos : Pos} (z : Str) (t : Tok) (e it : Addr) :
    Turn P w K (.Tuple elts kk tpos) (IteS z) [e, it] e (fun i h => (∃ old, IsEnum h e it ((i : Nat) : Int) old) ∧ h.IsStrIter it (strIterType z) z t i ∧ e ≠ it) where
  mem := by simp
  obj := fun i h st b hb => by
    obtain ⟨⟨old, he⟩, ⟨o, ho, hc, hd⟩, _⟩ := st
    have e' : b = e ∨ b = it := by simpa using hb
    rcases e' with z | z
    · rw [z]; exact ⟨_, he, fun v q => nomatch q⟩
    · rw [z]; exact ⟨o, ho, fun v q => by rw [hd] at q; cases q⟩
  keep := fun i h h' st k => let ⟨⟨old, he⟩, ⟨o, ho, hcd⟩, hne⟩ := st; ⟨⟨old, k e (by simp) _ he⟩, ⟨o, k it (by simp) o ho, hcd⟩, hne⟩
  item := by
    intro X hP hw hK hc i pins s σ H E I hf st hg
    subst hP hw hK
    obtain ⟨⟨old, he⟩, hit, hne⟩ := st
    have hel : e < s.heap.objs.size := Heap.lt_size he
    have hil : it < s.heap.objs.size := by obtain ⟨_, q, _⟩ := hit; exact Heap.lt_size q
    have Dr := Draws.text (prog := X.prog) (w := X.w) (A := X.A.in1) (show X.A.in1.handled = none from I.ok.hd hc) it z t
    refine wpAny_pyNext_enum_itemD Dr he hit hg hne (by simpa using hne) fun x' h' tk hP ho hit' hT hsz hk => ?_
    obtain ⟨c, u, hcu, rfl⟩ := hP
    refine ⟨_, rfl, wpAny_letOwnedTupleGo_enum (s := { s with heap := h', toks := tk + 1 }) ho fun h'' he' sb => ?_⟩
    have hT2 : h''.get? s.heap.objs.size = some { cls := .type "tuple", data := .seq #[.int i tk, .str ⟨#[c]⟩ u] } := (sb.2 _ (Nat.ne_of_gt hel)).trans hT
    have new : ObjOk X.prog X.w (upd H s.heap.objs.size (.tup [.int (i : Nat), .str ⟨#[c]⟩])) h'' s.heap.objs.size (.tup [.int (i : Nat), .str ⟨#[c]⟩]) :=
      ⟨by show 2 ≤ sizeLine; decide, [.int i tk, .str ⟨#[c]⟩ u], .cons ⟨_, rfl⟩ (.cons ⟨_, rfl⟩ .nil), ⟨_, hT2, rfl, _, rfl⟩⟩
    have I1 : Inv X pins σ (upd H s.heap.objs.size (.tup [.int (i : Nat), .str ⟨#[c]⟩])) { s with heap := h'', toks := tk + 1 } :=
      I.turnedNew (ch := [e, it]) (fun b ob hb q => (sb.2 b (fun z => hb (by simp [z]))).trans (hk b ob (fun z => hb (by simp [z])) (fun z => hb (by simp [z])) q)) hf (Nat.le_refl _) new
    refine ⟨.ref s.heap.objs.size, _, I1, rfl, ⟨_, c, rfl, I.hok.fresh (Nat.le_refl _), rfl, hcu⟩, ⟨⟨.str ⟨#[c]⟩ u, ?_⟩, ?_, hne⟩, fun b hb => ?_⟩
    · have e1 : ((i + 1 : Nat) : Int) = (i : Int) + 1 := by omega
      rw [e1]; exact he'
    · obtain ⟨o, ho2, hcd⟩ := hit'
      exact ⟨o, (sb.2 it (Ne.symm hne)).trans ho2, hcd⟩
    · have hb' : b < s.heap.objs.size := by
        have e' : b = e ∨ b = it := by simpa using hb
        rcases e' with z | z
        · rw [z]; exact hel
        · rw [z]; exact hil
      rw [upd_ne (Nat.ne_of_lt hb')]
      exact (hf b hb).1
  done := by
    intro X hP hw hK hc i pins s σ H E I hf st hg
    subst hP hw hK
    obtain ⟨⟨old, he⟩, hit, hne⟩ := st
    obtain ⟨f0, f1, f2, f3, f4, f5⟩ := hf it (by simp)
    have Dr := Draws.text (prog := X.prog) (w := X.w) (A := X.A.in1) (show X.A.in1.handled = none from I.ok.hd hc) it z t
    have hn : z.cps.size = i := hg
    exact wpAny_pyNext_enum_endD Dr he (by rw [hn]; exact hit) fun h' eb => ⟨rfl, I.turned (t' := s.toks) (fun b o hb q => eb b o hb q) f0 f1 f3 f4 f5⟩
  self := fun A i s Q E st h => let ⟨⟨_, he⟩, _⟩ := st; wpAny_pyIter_enum he h

/-- enumerate of a list, a tuple, a text -/
def iEnumV (K : PySem.W.Frag) (ta : TA) : TI := fun σ H R => ta σ H fun vs H1 => (∃ a xs, vs = [.ref a] ∧ SqL K H1 a xs ∧ R (Ite K a) H1) ∨ (∃ a xs, vs = [.ref a] ∧ SqT K H1 a xs ∧ R (IteT K a) H1) ∨ ∃ z, vs = [.str z] ∧ R (IteS z) H1
theorem pi_enumV {X : Cx} {e : Expr} {ta : TA} {p pos tpos : Pos} {elts : List Expr} {kk : Nat} (hg : Gl X "enumerate") (hm : X.mg "enumerate" = none) (ha : PA X [e] ta) (hs : starEach [e] X.env = [(false, eval e X.env)] := by rfl) :
    PI X (.Tuple elts kk tpos) (.Call (.Name "enumerate" p) [e] [] pos) (iEnumV X.K ta) := by
  refine ⟨fun pins s σ H R I h => ?_⟩
  refine Call_ (ld_blt I hg hm boot_enumerate (PyProof.Rows.callWith_type1 (thn (ha.run pos pins s σ H _ I h) fun us s1 ⟨vs, H1, I1, r1, q1⟩ => ?_) hs rfl))
  have fp : ∀ b ∈ [s1.heap.objs.size + 1, s1.heap.objs.size], FpOk X pins H1 b := fun b hb => by
    have e' : b = s1.heap.objs.size + 1 ∨ b = s1.heap.objs.size := by simpa using hb
    have hle : s1.heap.objs.size ≤ b := by
      rcases e' with z | z
      · rw [z]; exact Nat.le_add_right _ _
      · rw [z]; exact Nat.le_refl _
    exact I1.fpOk hle (I1.hok.fresh hle)
  rcases q1 with ⟨a, xs, ex, hq, q⟩ | ⟨a, xs, ex, hq, q⟩ | ⟨z, ex, q⟩
  · subst ex
    obtain ⟨u, rfl, r⟩ := vals1 r1
    cases r
    obtain ⟨its, rv, p', hz⟩ := I1.list hq
    refine call_enumerate_list p'.isList fun h' he hit hsz hk => wpAny_pyIter_enum he ?_
    have I2 : Inv X pins σ H1 { s1 with heap := h' } := I1.kept (t' := s1.toks) hk
    exact ⟨s1.heap.objs.size + 1, [s1.heap.objs.size + 1, s1.heap.objs.size], _, _, H1, rfl, I2, turn_enum a (s1.heap.objs.size + 1) s1.heap.objs.size, ⟨⟨.none, he⟩, hit, Nat.succ_ne_self _⟩, fp, q⟩
  · subst ex
    obtain ⟨u, rfl, r⟩ := vals1 r1
    cases r
    obtain ⟨its, rv, p', hz⟩ := I1.tuple hq
    have lt : a < s1.heap.objs.size := p'.lt
    refine enum_begins1 (begins_tuple a its.toArray) p' fun h' he hit hsz hk => wpAny_pyIter_enum he ?_
    have I2 : Inv X pins σ H1 { s1 with heap := h' } := I1.kept (t' := s1.toks) hk
    exact ⟨s1.heap.objs.size + 1, [s1.heap.objs.size + 1, s1.heap.objs.size], _, _, H1, rfl, I2, turn_enumT a (s1.heap.objs.size + 1) s1.heap.objs.size, ⟨⟨.none, he⟩, ⟨_, hit, rfl, rfl⟩, Nat.succ_ne_self _, Nat.ne_of_lt lt, Ne.symm (Nat.ne_of_lt (Nat.lt_succ_of_lt lt))⟩, fp, q⟩
  · subst ex
    obtain ⟨u, rfl, r⟩ := vals1 r1
    obtain ⟨t, rfl⟩ := r
    refine enum_begins1 (begins_text z t) trivial fun h' he hit hsz hk => wpAny_pyIter_enum he ?_
    have I2 : Inv X pins σ H1 { s1 with heap := h' } := I1.kept (t' := s1.toks) hk
    exact ⟨s1.heap.objs.size + 1, [s1.heap.objs.size + 1, s1.heap.objs.size], _, _, H1, rfl, I2, turn_enumS z t (s1.heap.objs.size + 1) s1.heap.objs.size, ⟨⟨.none, he⟩, ⟨_, hit, rfl, rfl⟩, Nat.succ_ne_self _⟩, fp, q⟩

/-! ### sources -/
/-- items that are known -/
def nxL (ds : List D) (i : Nat) : Option (Option D) := if i = ds.length then some none else (ds[i]?).map some
def nxEn (ds : List D) (i : Nat) : Option (Option D) := if i = ds.length then some none else (ds[i]?).map fun d => some (.tup [.int (i : Nat), d])
def signs (x : List Nat) : List D := x.map fun c => .str [c]
/-- for x in v -/
def srcOf (d : D) (S : Store) : Option Src := match d with
  | .tup ds => some ⟨ds.length + 1, fun i _ => nxL ds i⟩
  | .str x => some ⟨x.length + 1, fun i _ => nxL (signs x) i⟩
  | .ref n => (lstAt S n).map fun xs => ⟨xs.length + 1, fun i S => (lstAt S n).bind fun xs => nxL xs i⟩
  | _ => none
def srcEn (d : D) (S : Store) : Option Src := match d with
  | .tup ds => some ⟨ds.length + 1, fun i _ => nxEn ds i⟩
  | .str x => some ⟨x.length + 1, fun i _ => nxEn (signs x) i⟩
  | .ref n => (lstAt S n).map fun xs => ⟨xs.length + 1, fun i S => (lstAt S n).bind fun xs => nxEn xs i⟩
  | _ => none
def ofSrc (o : Option Src) (S : Store) : Res Src := match o with
  | some s => .ok s S
  | none => .stuck
def iVal (a : EF) : IF := fun ρ S => (a ρ S).bind fun d S1 => ofSrc (srcOf d S1) S1
def iEn (a : AF) : IF := fun ρ S => (a ρ S).bind fun ds S1 => match ds with
  | [d] => ofSrc (srcEn d S1) S1
  | _ => .stuck
def srcRg : List D → Option Src
  | [.int j] => if -(2 ^ 62) ≤ j ∧ j < 2 ^ 62 then some ⟨j.toNat + 1, fun i _ => if i < j.toNat then some (some (.int (i : Nat))) else some none⟩ else none
  | _ => none
def iRange (a : AF) : IF := fun ρ S => (a ρ S).bind fun ds S1 => ofSrc (srcRg ds) S1
theorem nxL_some {ds : List D} {i : Nat} {d : D} (e : nxL ds i = some (some d)) : ds[i]? = some d := by
  unfold nxL at e
  split at e
  · cases e
  · obtain ⟨x, e1, e2⟩ : ∃ x, ds[i]? = some x ∧ some x = some d := by
      cases z : ds[i]? with
      | none => rw [z] at e; cases e
      | some x => rw [z] at e; exact ⟨x, rfl, Option.some.inj e⟩
    cases e2
    exact e1
theorem nxL_none {ds : List D} {i : Nat} (e : nxL ds i = some none) : ds.length = i := by
  unfold nxL at e
  split at e
  · rename_i h; exact h.symm
  · cases z : ds[i]? with
    | none => rw [z] at e; cases e
    | some x => rw [z] at e; cases e
theorem nxEn_some {ds : List D} {i : Nat} {d : D} (e : nxEn ds i = some (some d)) : ∃ d', ds[i]? = some d' ∧ d = .tup [.int (i : Nat), d'] := by
  unfold nxEn at e
  split at e
  · cases e
  · cases z : ds[i]? with
    | none => rw [z] at e; cases e
    | some x => rw [z] at e; cases e; exact ⟨x, rfl, rfl⟩
theorem nxEn_none {ds : List D} {i : Nat} (e : nxEn ds i = some none) : ds.length = i := by
  unfold nxEn at e
  split at e
  · rename_i h; exact h.symm
  · cases z : ds[i]? with
    | none => rw [z] at e; cases e
    | some x => rw [z] at e; cases e
def iValV (K : KW) (te : TE) : TI := fun σ H R => te σ H fun x H1 => (∃ a xs, x = .ref a ∧ SqL K H1 a xs ∧ R (Itl K a) H1) ∨ (∃ a xs, x = .ref a ∧ SqT K H1 a xs ∧ R (Itt K a) H1) ∨ ∃ z, x = .str z ∧ R (Its z) H1
theorem pi_valV {X : Cx} {tg e : Expr} {te : TE} (he : PE X e te) : PI X tg e (iValV X.kw te) := by
  refine ⟨fun pins s σ H R I h => ?_⟩
  refine thn (he.run pins s σ H _ I h) fun v s1 ⟨x, H1, I1, r1, q1⟩ => ?_
  rcases q1 with ⟨a, xs, ex, hq, q⟩ | ⟨a, xs, ex, hq, q⟩ | ⟨z, ex, q⟩
  · subst ex
    cases r1
    obtain ⟨its, rv, p, hz⟩ := I1.list hq
    refine wpAny_pyIter_list p.isList ?_
    refine ⟨s1.heap.objs.size, [s1.heap.objs.size], _, _, H1, rfl, I1.kept (t' := s1.toks) fun b o e => Heap.get?_push_of_some _ e, turn_list a _, ⟨_, Heap.get?_push_size _ rfl, rfl, rfl⟩, fun b hb => ?_, q⟩
    have e : b = s1.heap.objs.size := by simpa using hb
    subst e
    exact I1.fpOk (Nat.le_refl _) (I1.hok.fresh (Nat.le_refl _))
  · subst ex
    cases r1
    obtain ⟨its, rv, p, hz⟩ := I1.tuple hq
    refine wpAny_pyIter_tuple (show s1.heap.IsTuple a its.toArray from p) ?_
    refine ⟨s1.heap.objs.size, [s1.heap.objs.size], _, _, H1, rfl, I1.kept (t' := s1.toks) fun b o e => Heap.get?_push_of_some _ e, turn_tuple a _, ⟨_, Heap.get?_push_size _ rfl, rfl, rfl⟩, fun b hb => ?_, q⟩
    have e : b = s1.heap.objs.size := by simpa using hb
    subst e
    exact I1.fpOk (Nat.le_refl _) (I1.hok.fresh (Nat.le_refl _))
  · subst ex
    obtain ⟨t, rfl⟩ := r1
    cases ha : z.cps.all (· < 128)
    · exact wpAny_pyIter_wide ha (pi_one (tk := s1.toks) I1 _ (turn_str _ z t "str_iterator" (.inr rfl)) ⟨_, Heap.get?_push_size _ rfl, rfl, rfl⟩ q)
    · exact wpAny_pyIter_ascii ha (pi_one (tk := s1.toks) I1 _ (turn_str _ z t "str_ascii_iterator" (.inl rfl)) ⟨_, Heap.get?_push_size _ rfl, rfl, rfl⟩ q)
theorem lstAt_sq {K : KW} {φ : List Addr} {H : Hp} {S : Store} {n : Nat} {p : Addr} {xs : List D} (rh : RH K φ H S) (g : φ[n]? = some p) (e : lstAt S n = some xs) : ∃ vs, SqL K H p vs ∧ RVs K φ H xs vs := by
  obtain ⟨q, vs, e1, sq, r⟩ := lstAt_ok rh e (rv_ref g)
  cases e1
  exact ⟨vs, sq, r⟩
theorem signs_get {x : List Nat} {i : Nat} {d : D} (e : (signs x)[i]? = some d) : ∃ c, x[i]? = some c ∧ d = .str [c] := by
  unfold signs at e
  rw [List.getElem?_map] at e
  obtain ⟨c, e1, e2⟩ := mapOpt e
  exact ⟨c, e1, e2.symm⟩
theorem signs_len (x : List Nat) : (signs x).length = x.length := by simp [signs]
section
variable {X : Cx} {W : WX} {tg e : Expr} {Fa : EF} {Fr : AF} {pos p tpos : Pos}
theorem src_tup {K : KW} {φ : List Addr} {H : Hp} {a : Addr} {vs : List V} {ds : List D} (sq : SqT K H a vs) (r : RVs K φ H ds vs) : SrcOk K φ H (Itt K a) (fun i _ => nxL ds i) := by
  intro i φ1 H1 S1 x rh
  have sq1 := x.sq a vs sq
  refine ⟨fun d e => ?_, fun e => ⟨vs, sq1, by rw [← r.length, nxL_none e]; exact Nat.le_refl _⟩⟩
  obtain ⟨v, e1, rv⟩ := (r.ext x).get (nxL_some e)
  refine ⟨⟨vs, v, sq1, e1⟩, fun y H' ⟨e2, hy⟩ => ?_⟩
  subst e2
  have := hy vs sq1
  rw [e1] at this
  cases this
  exact ⟨.refl, rh, rv⟩
theorem src_lst {K : KW} {φ : List Addr} {H : Hp} {a : Addr} {n : Nat} (g : φ[n]? = some a) : SrcOk K φ H (Itl K a) (fun i S => (lstAt S n).bind fun xs => nxL xs i) := by
  intro i φ1 H1 S1 x rh
  refine ⟨fun d e => ?_, fun e => ?_⟩
  · obtain ⟨xs, el, e⟩ := bindO e
    obtain ⟨vs, sq, r⟩ := lstAt_sq rh (pre_get x.pre g) el
    obtain ⟨v, e1, rv⟩ := r.get (nxL_some e)
    refine ⟨⟨vs, v, sq, e1⟩, fun y H' ⟨e2, hy⟩ => ?_⟩
    subst e2
    have := hy vs sq
    rw [e1] at this
    cases this
    exact ⟨.refl, rh, rv⟩
  · obtain ⟨xs, el, e⟩ := bindO e
    obtain ⟨vs, sq, r⟩ := lstAt_sq rh (pre_get x.pre g) el
    exact ⟨vs, sq, by rw [← r.length, nxL_none e]; exact Nat.le_refl _⟩
theorem src_str {K : KW} {φ : List Addr} {H : Hp} {z : List Nat} : SrcOk K φ H (Its (toS z)) (fun i _ => nxL (signs z) i) := by
  intro i φ1 H1 S1 x rh
  refine ⟨fun d e => ?_, fun e => ?_⟩
  · obtain ⟨c, e1, rfl⟩ := signs_get (nxL_some e)
    have e5 : (toS z).cps[i]? = some c := by simpa [toS] using e1
    refine ⟨(Array.getElem?_eq_some_iff.mp e5).1, fun y H' ⟨e2, c', e3, e4⟩ => ?_⟩
    rw [e5] at e3
    cases e3
    subst e2 e4
    exact ⟨.refl, rh, rv_str⟩
  · have := nxL_none e
    rw [signs_len] at this
    show (toS z).cps.size ≤ i
    simp [toS, this]
theorem ai_val (he : AE X W e Fa) : AI X W tg e (iVal Fa) := by
  refine pi_mono (pi_valV he) fun σ H R ⟨φ, ρ, S, rh, rl, f⟩ => ⟨φ, ρ, S, rh, rl, ?_⟩
  unfold iVal at f
  cases z : Fa ρ S with
  | stuck => rw [z] at f; exact f.elim
  | exc x S1 => rw [z] at f; exact f
  | ok d S1 =>
    rw [z] at f
    intro φ1 H1 v x1 rh1 rv1
    have f : match ofSrc (srcOf d S1) S1 with
      | .ok src S' => ∀ φ' H' J, Ext X.kw φ H φ' H' → RH X.kw φ' H' S' → SrcOk X.kw φ' H' J src.nxt → R J H'
      | .exc x S' => ∀ φ' H' cv dx, Ext X.kw φ H φ' H' → RH X.kw φ' H' S' → RX X.kw φ' H' x cv dx → W cv dx σ H'
      | .stuck => False := f
    cases d with
    | tup ds =>
      obtain ⟨p, vs, rfl, sq, r⟩ := rv1.tup_
      exact .inr (.inl ⟨p, vs, rfl, sq, f φ1 H1 _ x1 rh1 (src_tup sq r)⟩)
    | str y => exact .inr (.inr ⟨toS y, rv1.str_, f φ1 H1 _ x1 rh1 src_str⟩)
    | ref n =>
      cases el : lstAt S1 n with
      | none => simp only [srcOf, el, Option.map, ofSrc] at f
      | some xs =>
        simp only [srcOf, el, Option.map, ofSrc] at f
        obtain ⟨p, e1, g⟩ := rv1.ref_
        obtain ⟨vs, sq, r⟩ := lstAt_sq rh1 g el
        exact .inl ⟨p, vs, e1, sq, f φ1 H1 _ x1 rh1 (src_lst g)⟩
    | _ => exact f.elim
theorem pair_new {K : KW} {φ : List Addr} {H : Hp} {S : Store} {T : Addr} {i : Nat} {d : D} {v : V} (rh : RH K φ H S) (hT : H T = none) (r : RV K φ H d v) :
    Ext K φ H φ (upd H T (.tup [.int (i : Nat), v])) ∧ RH K φ (upd H T (.tup [.int (i : Nat), v])) S ∧ RV K φ (upd H T (.tup [.int (i : Nat), v])) (.tup [.int (i : Nat), d]) (.ref T) := by
  have x := Ext.new (K := K) (φ := φ) (o := HO.tup [.int (i : Nat), v]) hT
  exact ⟨x, rh.new hT, rv_tup (.inl (.inl upd_same)) (.cons rv_int (.cons (r.ext x) .nil))⟩
theorem src_enT {K : KW} {φ : List Addr} {H : Hp} {a : Addr} {vs : List V} {ds : List D} (sq : SqT K H a vs) (r : RVs K φ H ds vs) : SrcOk K φ H (IteT K a) (fun i _ => nxEn ds i) := by
  intro i φ1 H1 S1 x rh
  have sq1 := x.sq a vs sq
  refine ⟨fun d e => ?_, fun e => ⟨vs, sq1, by rw [← r.length, nxEn_none e]⟩⟩
  obtain ⟨d', e0, rfl⟩ := nxEn_some e
  obtain ⟨v, e1, rv⟩ := (r.ext x).get e0
  refine ⟨⟨vs, v, sq1, e1⟩, fun y H' ⟨T, v', e2, hT, e3, hy⟩ => ?_⟩
  have := hy vs sq1
  rw [e1] at this
  cases this
  subst e2 e3
  exact pair_new rh hT rv
theorem src_enL {K : KW} {φ : List Addr} {H : Hp} {a : Addr} {n : Nat} (g : φ[n]? = some a) : SrcOk K φ H (Ite K a) (fun i S => (lstAt S n).bind fun xs => nxEn xs i) := by
  intro i φ1 H1 S1 x rh
  refine ⟨fun d e => ?_, fun e => ?_⟩
  · obtain ⟨xs, el, e⟩ := bindO e
    obtain ⟨vs, sq, r⟩ := lstAt_sq rh (pre_get x.pre g) el
    obtain ⟨d', e0, rfl⟩ := nxEn_some e
    obtain ⟨v, e1, rv⟩ := r.get e0
    refine ⟨⟨vs, v, sq, e1⟩, fun y H' ⟨T, v', e2, hT, e3, hy⟩ => ?_⟩
    have := hy vs sq
    rw [e1] at this
    cases this
    subst e2 e3
    exact pair_new rh hT rv
  · obtain ⟨xs, el, e⟩ := bindO e
    obtain ⟨vs, sq, r⟩ := lstAt_sq rh (pre_get x.pre g) el
    exact ⟨vs, sq, by rw [← r.length, nxEn_none e]; exact Nat.le_refl _⟩
theorem src_enS {K : KW} {φ : List Addr} {H : Hp} {z : List Nat} : SrcOk K φ H (IteS (toS z)) (fun i _ => nxEn (signs z) i) := by
  intro i φ1 H1 S1 x rh
  refine ⟨fun d e => ?_, fun e => ?_⟩
  · obtain ⟨d', e0, rfl⟩ := nxEn_some e
    obtain ⟨c, e1, rfl⟩ := signs_get e0
    have e5 : (toS z).cps[i]? = some c := by simpa [toS] using e1
    refine ⟨(Array.getElem?_eq_some_iff.mp e5).1, fun y H' ⟨T, c', e2, hT, e3, e4⟩ => ?_⟩
    rw [e5] at e4
    cases e4
    subst e2 e3
    exact pair_new rh hT rv_str
  · have := nxEn_none e
    rw [signs_len] at this
    show (toS z).cps.size = i
    simp [toS, this]
theorem ai_enum {elts : List Expr} {kk : Nat} (ha : AA X W [e] Fr) (hm : X.mg "enumerate" = none) (hg : Gl X "enumerate" := by rfl) (hs : starEach [e] X.env = [(false, eval e X.env)] := by rfl) :
    AI X W (.Tuple elts kk tpos) (.Call (.Name "enumerate" p) [e] [] pos) (iEn Fr) := by
  refine pi_mono (pi_enumV hg hm ha hs) fun σ H R ⟨φ, ρ, S, rh, rl, f⟩ => ⟨φ, ρ, S, rh, rl, ?_⟩
  unfold iEn at f
  cases z : Fr ρ S with
  | stuck => rw [z] at f; exact f.elim
  | exc x S1 => rw [z] at f; exact f
  | ok ds S1 =>
    rw [z] at f
    intro φ1 H1 vs x1 rh1 rv1
    cases ds with
    | nil => exact f.elim
    | cons d r =>
      cases r with
      | cons _ _ => exact f.elim
      | nil =>
        obtain ⟨v, rfl, rv⟩ := rvs1 rv1
        have f : match ofSrc (srcEn d S1) S1 with
          | .ok src S' => ∀ φ' H' J, Ext X.kw φ H φ' H' → RH X.kw φ' H' S' → SrcOk X.kw φ' H' J src.nxt → R J H'
          | .exc x S' => ∀ φ' H' cv dx, Ext X.kw φ H φ' H' → RH X.kw φ' H' S' → RX X.kw φ' H' x cv dx → W cv dx σ H'
          | .stuck => False := f
        cases d with
        | tup ds =>
          obtain ⟨p, vs, rfl, sq, r⟩ := rv.tup_
          exact .inr (.inl ⟨p, vs, rfl, sq, f φ1 H1 _ x1 rh1 (src_enT sq r)⟩)
        | str y => exact .inr (.inr ⟨toS y, by rw [rv.str_], f φ1 H1 _ x1 rh1 src_enS⟩)
        | ref n =>
          cases el : lstAt S1 n with
          | none => simp only [srcEn, el, Option.map, ofSrc] at f
          | some xs =>
            simp only [srcEn, el, Option.map, ofSrc] at f
            obtain ⟨p, e1, g⟩ := rv.ref_
            obtain ⟨vs, sq, r⟩ := lstAt_sq rh1 g el
            exact .inl ⟨p, vs, by rw [e1], sq, f φ1 H1 _ x1 rh1 (src_enL g)⟩
        | _ => exact f.elim
theorem ai_range (ha : AA X W [e] Fr) (hm : X.mg "range" = none) (hg : Gl X "range" := by rfl) (hs : starEach [e] X.env = [(false, eval e X.env)] := by rfl) :
    AI X W tg (.Call (.Name "range" p) [e] [] pos) (iRange Fr) := by
  refine pi_mono (pi_range1 hg hm ha hs) fun σ H R ⟨φ, ρ, S, rh, rl, f⟩ => ⟨φ, ρ, S, rh, rl, ?_⟩
  unfold iRange at f
  cases z : Fr ρ S with
  | stuck => rw [z] at f; exact f.elim
  | exc x S1 => rw [z] at f; exact f
  | ok ds S1 =>
    rw [z] at f
    intro φ1 H1 vs x1 rh1 rv1
    have f : match ofSrc (srcRg ds) S1 with
      | .ok src S' => ∀ φ' H' J, Ext X.kw φ H φ' H' → RH X.kw φ' H' S' → SrcOk X.kw φ' H' J src.nxt → R J H'
      | .exc x S' => ∀ φ' H' cv dx, Ext X.kw φ H φ' H' → RH X.kw φ' H' S' → RX X.kw φ' H' x cv dx → W cv dx σ H'
      | .stuck => False := f
    cases es : srcRg ds with
    | none => rw [es] at f; exact f.elim
    | some src =>
      rw [es] at f
      unfold srcRg at es
      split at es
      · rename_i j
        split at es
        · cases es
          rename_i hj
          obtain ⟨v, rfl, rv⟩ := rvs1 rv1
          refine ⟨j, by rw [rv.int_], hj.1, hj.2, f φ1 H1 _ x1 rh1 ?_⟩
          intro i φ2 H2 S2 x2 rh2
          refine ⟨fun d e => ?_, fun e => ?_⟩
          · have e : (if i < j.toNat then some (some (D.int (i : Nat))) else some none) = some (some d) := e
            split at e
            · cases e
              rename_i h
              refine ⟨h, fun y H' ⟨e2, e3⟩ => ?_⟩
              subst e2 e3
              exact ⟨.refl, rh2, by rw [Int.zero_add]; exact rv_int⟩
            · cases e
          · have e : (if i < j.toNat then some (some (D.int (i : Nat))) else some none) = some none := e
            split at e
            · cases e
            · rename_i h
              exact Nat.le_of_not_lt h
        · cases es
      · cases es
end
end Al

set_option Elab.async false
set_option linter.all false
set_option maxRecDepth 100000
set_option maxHeartbeats 1000000
/-! Al: list comprehensions. -/
namespace Al
open PySem PySem.Spec PyProof.Rows L2
abbrev W0 : WX := fun _ _ _ _ => False
def Res.quiet {α : Type} : Res α → Res α
  | .ok a S => .ok a S
  | _ => .stuck
def wipeE (ρ : Env) : List Nat → Env
  | [] => ρ
  | v :: vs => (wipeE ρ vs).set v none
theorem RL.setNone {K : KW} {φ : List Addr} {H : Hp} {σ : St} {ρ : Env} (i : Nat) (h : RL K φ H σ ρ) : RL K φ H (σ.set i none) (ρ.set i none) := by
  refine ⟨by simp [h.1], fun j d' e => ?_⟩
  by_cases hj : i = j
  · subst hj
    by_cases hl : i < ρ.length
    · rw [List.getElem?_set_self hl] at e
      cases e
    · rw [List.getElem?_eq_none (by simpa using hl)] at e
      cases e
  · rw [List.getElem?_set_ne hj] at e
    obtain ⟨w, e1, r1⟩ := h.2 j d' e
    exact ⟨w, by rw [List.getElem?_set_ne hj]; exact e1, r1⟩
theorem RL.wipe {K : KW} {φ : List Addr} {H : Hp} {σ : St} {ρ : Env} (h : RL K φ H σ ρ) : ∀ vs : List Nat, RL K φ H (L2.wipe σ vs) (wipeE ρ vs)
  | [] => h
  | v :: vs => (RL.wipe h vs).setNone v
/-- a comprehension's turns: its list has the number n -/
def lcF (nxt : Nat → Store → Option (Option D)) (t : Tg) (ti : TF) (el : EF) (n : Nat) : Nat → Nat → Env → Store → Res D
  | 0, _, _, _ => .stuck
  | m + 1, i, ρ, S => match nxt i S with
    | none => .stuck
    | some none => .ok (.ref n) S
    | some (some d) => match tgD t d ρ with
      | none => .stuck
      | some ρ1 => (ti ρ1 S).quiet.bind fun b S1 => if b = true then (el ρ1 S1).quiet.bind fun y S2 => match S2[n]? with
            | some (.lst acc) => if acc.length < lim then lcF nxt t ti el n m (i + 1) ρ (S2.set n (.lst (acc ++ [y]))) else .stuck
            | _ => .stuck
          else lcF nxt t ti el n m (i + 1) ρ S1
def eLc (it : IF) (t : Tg) (ti : TF) (el : EF) (vs : List Nat) : EF := fun ρ S => (it ρ S).bind fun src S1 => lcF src.nxt t ti el S1.length src.fuel 0 (wipeE ρ vs) (S1 ++ [.lst []])
def tYesF : TF := fun _ S => .ok true S
def ATs (X : Cx) (W : WX) (es : List Expr) (F : TF) : Prop := PTs X es (tFT X.kw W F)
section
variable {X : Cx} {W : WX}
theorem pts_mono {es : List Expr} {t t' : TT} (h : PTs X es t) (i : ∀ σ H Q, t' σ H Q → t σ H Q) : PTs X es t' := ⟨fun pins s σ H Q I q => h.run pins s σ H Q I (i σ H Q q)⟩
theorem ats_nil : ATs X W [] tYesF := pts_mono pts_nil fun σ H Q ⟨φ, ρ, S, rh, rl, f⟩ => f φ H .refl rh
theorem ats_one {c : Expr} {T : TF} (h : AT X W c T) : ATs X W [c] T := pts_one h
theorem lc_run {σ : St} {H : Hp} {Q : VK} {Fi : IF} {t : Tg} {Ti : TF} {Fe : EF} {vs : List Nat} {K : KW} (ht : ∀ i ∈ t.slots, i ∈ vs) (h : tF K W (eLc Fi t Ti Fe vs) σ H Q) :
    tLc (tFI K W Fi) (tgV K t) (tFT K W0 Ti) (tF K W0 Fe) vs σ H Q := by
  obtain ⟨φ, ρ, S, rh, rl, f⟩ := h
  refine ⟨φ, ρ, S, rh, rl, ?_⟩
  unfold eLc at f
  cases z : Fi ρ S with
  | stuck => rw [z] at f; exact f.elim
  | exc x S1 => rw [z] at f; exact f
  | ok src S1 =>
    rw [z] at f
    intro φ0 H0 J x0 rh0 ok Dd hD
    have f : Fin K W φ H σ (lcF src.nxt t Ti Fe S1.length src.fuel 0 (wipeE ρ vs) (S1 ++ [.lst []])) Q := f
    have x1 := Ext.num (K := K) (φ := φ0) (o := HO.lst []) hD
    have rh1 := rh0.alloc (x := .lst []) (o := HO.lst []) hD ⟨[], upd_same, .nil⟩
    refine ⟨fun i m H1 => ∃ φ1 S2, Ext K (φ0 ++ [Dd]) (upd H0 Dd (.lst [])) φ1 H1 ∧ RH K φ1 H1 S2 ∧ Fin K W φ1 H1 σ (lcF src.nxt t Ti Fe S1.length m i (wipeE ρ vs) S2) Q, ⟨src.fuel, _, _, .refl, rh1, (f.ext x0).ext x1⟩, ?_⟩
    rintro i m H1 ⟨φ1, S2, x2, rh2, f1⟩
    have gD : φ1[S1.length]? = some Dd := pre_get x2.pre (by rw [← rh0.len]; simp)
    cases m with
    | zero => exact f1.elim
    | succ n =>
      have o := ok i φ1 H1 S2 (x1.trans x2) rh2
      unfold lcF at f1
      split at f1
      · exact f1.elim
      · rename_i e
        exact .inl ⟨o.2 e, f1.ok_of rh2 (rv_ref gD)⟩
      · rename_i d e
        have o := o.1 d e
        refine .inr ⟨o.1, fun H'' => ∃ φ1 S2, Ext K (φ0 ++ [Dd]) (upd H0 Dd (.lst [])) φ1 H'' ∧ RH K φ1 H'' S2 ∧ Fin K W φ1 H'' σ (lcF src.nxt t Ti Fe S1.length n (i + 1) (wipeE ρ vs) S2) Q, fun H'' h => ⟨n, Nat.lt_succ_self n, h⟩, fun xv H2 y => ?_⟩
        obtain ⟨x3, rh3, rv3⟩ := o.2 xv H2 y
        split at f1
        · exact f1.elim
        · rename_i ρ2 er
          have rlw : RL K φ1 H2 (L2.wipe σ vs) (wipeE ρ vs) := ((((rl.ext x0).ext x1).ext x2).ext x3).wipe vs
          have ww : L2.wipe (L2.wipe σ vs) vs = L2.wipe σ vs := by
            have : ∀ (us : List Nat) (τ : St), (∀ i ∈ us, ∀ v, τ[i]? = some v → v = none) → L2.wipe τ us = τ := by
              intro us
              induction us with
              | nil => intro τ _; rfl
              | cons a us ih =>
                intro τ hτ
                unfold L2.wipe
                rw [ih τ fun i hi => hτ i (List.mem_cons_of_mem _ hi)]
                apply List.ext_getElem?
                intro j
                by_cases hj : a = j
                · subst hj
                  by_cases hl : a < τ.length
                  · rw [List.getElem?_set_self hl]
                    have := hτ a List.mem_cons_self τ[a] (List.getElem?_eq_getElem hl)
                    rw [List.getElem?_eq_getElem hl, this]
                  · rw [List.getElem?_eq_none (by simpa using hl), List.getElem?_eq_none (by omega)]
                · rw [List.getElem?_set_ne hj]
            refine this vs _ fun i hi v hv => ?_
            cases v with
            | none => rfl
            | some w => exact absurd hi (wipe_some hv).2
          refine tgV_run er rv3 rlw fun σ3 rl3 hw => ⟨?_, ?_⟩
          · rw [hw vs ht, ww]
          · refine ⟨φ1, ρ2, S2, rh3, rl3, ?_⟩
            have f2 := f1.ext x3
            cases zt : Ti ρ2 S2 with
            | stuck => rw [zt] at f2; exact f2.elim
            | exc xx S3 => rw [zt] at f2; exact f2.elim
            | ok b S3 =>
              rw [zt] at f2
              intro φ4 H4 x4 rh4
              cases b with
              | false =>
                rw [if_neg Bool.false_ne_true]
                have f3 : Fin K W φ1 H2 σ (lcF src.nxt t Ti Fe S1.length n (i + 1) (wipeE ρ vs) S3) Q := f2
                exact ⟨φ4, S3, (x2.trans x3).trans x4, rh4, f3.ext x4⟩
              | true =>
                rw [if_pos rfl]
                refine ⟨φ4, ρ2, S3, rh4, rl3.ext x4, ?_⟩
                have f3 : Fin K W φ1 H2 σ ((Fe ρ2 S3).quiet.bind fun y S2 => match S2[S1.length]? with
                  | some (.lst acc) => if acc.length < lim then lcF src.nxt t Ti Fe S1.length n (i + 1) (wipeE ρ vs) (S2.set S1.length (.lst (acc ++ [y]))) else .stuck
                  | _ => .stuck) Q := f2
                cases ze : Fe ρ2 S3 with
                | stuck => rw [ze] at f3; exact f3.elim
                | exc xx S4 => rw [ze] at f3; exact f3.elim
                | ok yv S4 =>
                  rw [ze] at f3
                  intro φ5 H5 yy x5 rh5 rv5
                  simp only [Res.quiet, Res.bind_ok] at f3
                  split at f3
                  · rename_i acc ea
                    split at f3
                    · rename_i hl
                      have gD5 : φ5[S1.length]? = some Dd := pre_get ((x3.trans x4).trans x5).pre gD
                      obtain ⟨ws, hw5, r5⟩ := rh5.at_ _ _ _ ea gD5
                      refine ⟨ws, hw5, by rw [← r5.length, lim_eq]; exact hl, ?_⟩
                      have x6 := Ext.wr (K := K) (φ := φ5) (o := HO.lst (ws ++ [yy])) (mu_lst hw5)
                      refine ⟨φ5, _, (((x2.trans x3).trans x4).trans x5).trans x6, rh5.set (x := .lst (acc ++ [yv])) gD5 (mu_lst hw5) (fun q hq => by rw [hw5] at hq; cases hq) ⟨_, upd_same, (r5.append (.cons rv5 .nil)).ext x6⟩, ((f3.ext x4).ext x5).ext x6⟩
                    · exact f3.elim
                  · exact f3.elim
variable {elt tg iter : Expr} {ifs : List Expr} {scope : Scope} {own : List (Str × Nat)} {pos spos : Pos} {Fi : IF} {t : Tg} {Ti : TF} {Fe : EF}
theorem ae_lc (own : List (Str × Nat)) (hc : X.calm = true) (hN : X.N.Nodup) (hi : AI X W tg iter Fi) (ok : BlkOk X.N X.env.scope scope own) (ht0 : ∀ i ∈ t.slots, i ∈ own.map (·.2))
    (hg : ∀ (s : Shared) (H : Hp) (C : Addr) (cl : List (Str × Addr)) (fp : List Addr), AG (X.blk s H scope (compEnvC scope cl C X.env) fp) tg t) (ht : ∀ (s : Shared) (H : Hp) (C : Addr) (cl : List (Str × Addr)) (fp : List Addr), ATs (X.blk s H scope (compEnvC scope cl C X.env) fp) W0 ifs Ti)
    (he : ∀ (s : Shared) (H : Hp) (C : Addr) (cl : List (Str × Addr)) (fp : List Addr), AE (X.blk s H scope (compEnvC scope cl C X.env) fp) W0 elt Fe) (hs : ∀ x, foldedSetIterable iter X.env x = pure x := by intro _; rfl) :
    AE X W (.ListComp elt [⟨tg, iter, ifs, 0⟩] scope pos) (eLc Fi t Ti Fe (own.map (·.2))) :=
  pe_mono (pe_lc (g := tgV X.kw t) (tt := tFT X.kw W0 Ti) (te := tF X.kw W0 Fe) hc hN hi ok hg ht he hs) fun σ H Q h => lc_run ht0 h
theorem as_setLc (i : Nat) (own : List (Str × Nat)) {y : Str} {py : Pos} (hc : X.calm = true) (hN : X.N.Nodup) (hsw : swapsWith (.ListComp elt [⟨tg, iter, ifs, 0⟩] scope pos) (some (.Name y py)) spos.line X.env = pure true) (hi : AI X W tg iter Fi) (ok : BlkOk X.N X.env.scope scope own) (ht0 : ∀ i ∈ t.slots, i ∈ own.map (·.2))
    (hg : ∀ (s : Shared) (H : Hp) (C : Addr) (cl : List (Str × Addr)) (fp : List Addr), AG (X.blk s H scope (compEnvC scope cl C X.env) fp) tg t) (ht : ∀ (s : Shared) (H : Hp) (C : Addr) (cl : List (Str × Addr)) (fp : List Addr), ATs (X.blk s H scope (compEnvC scope cl C X.env) fp) W0 ifs Ti)
    (he : ∀ (s : Shared) (H : Hp) (C : Addr) (cl : List (Str × Addr)) (fp : List Addr), AE (X.blk s H scope (compEnvC scope cl C X.env) fp) W0 elt Fe) (hy : X.N[i]? = some y := by rfl) (hyl : X.env.scope.names.lookup y = some .local := by rfl) (hs : ∀ x, foldedSetIterable iter X.env x = pure x := by intro _; rfl) :
    AS X W (.Assign [.Name y py] (.ListComp elt [⟨tg, iter, ifs, 0⟩] scope pos) spos) (sSet i (eLc Fi t Ti Fe (own.map (·.2)))) := by
  refine ps_mono (ps_setLc (g := tgV X.kw t) (tt := tFT X.kw W0 Ti) (te := tF X.kw W0 Fe) hc hN hy hyl hsw hi ok hg ht he hs) fun D σ H ⟨φ, ρ, S, rh, rl, f⟩ => lc_run ht0 ⟨φ, ρ, S, rh, rl, (Fin.bindS trivial f).imp ?_⟩
  rintro v H1 ⟨φ1, S1, d, e1, rh1, rv1, f1⟩
  exact FinS.nx_of f1 rh1 ((rl.ext e1).set i rv1)
end
end Al

set_option Elab.async false
set_option linter.all false
set_option maxRecDepth 100000
set_option maxHeartbeats 1000000
/-! Al: defs and their calls. -/
namespace Al
open PySem PySem.Spec PyProof.Rows L2
/-- what a def computes -/
abbrev CF := List D → Store → Res D
def spA (K : KW) (n : Nat) (F : CF) : Sp := fun vs H Q E => vs.length = n ∧ ∃ φ S ds, RH K φ H S ∧ RVs K φ H ds vs ∧ match F ds S with
  | .ok d S' => ∀ φ' H' v, Ext K φ H φ' H' → RH K φ' H' S' → RV K φ' H' d v → Q v H'
  | .exc x S' => ∀ φ' H' cv dx, Ext K φ H φ' H' → RH K φ' H' S' → RX K φ' H' x cv dx → E cv dx H'
  | .stuck => False
def startE (n : Nat) (ds : List D) : Env := ds.map some ++ List.replicate (n - ds.length) none
def bodyF (n : Nat) (B : SF) : CF := fun ds S => (B (startE n ds) S).bind fun o S' => match o with
  | .ret d => .ok d S'
  | .nx _ => .ok .non S'
  | _ => .stuck
theorem rl_start {K : KW} {φ : List Addr} {H : Hp} {N : List Str} {ds : List D} {vs : List V} (r : RVs K φ H ds vs) : RL K φ H (L2.start N vs) (startE N.length ds) := by
  unfold L2.start startE
  refine ⟨by simp [r.length], fun i d e => ?_⟩
  by_cases hi : i < ds.length
  · rw [List.getElem?_append_left (by simpa using hi), List.getElem?_map] at e
    obtain ⟨x, e1, e2⟩ := mapOpt e
    cases e2
    obtain ⟨v, e3, rv⟩ := r.get e1
    exact ⟨v, by rw [List.getElem?_append_left (by simpa [← r.length] using hi), List.getElem?_map, e3]; rfl, rv⟩
  · rw [List.getElem?_append_right (by simpa using hi), List.getElem?_replicate] at e
    split at e <;> cases e
section
variable {P : Program} {w : World} {K : PySem.W.Frag} {mg : Str → Option Value} {base : Heap}
abbrev cxA (P : Program) (w : World) (K : PySem.W.Frag) (mg : Str → Option Value) (base : Heap) (N : List Str) (qual : Str) (st : Stmt) (f : Addr) (cdv : Value) (A : Around) (outer : List PySem.Env) (s : Shared) (H : Hp) (E : XK) : Cx :=
  cxOf (L2.CX P w) P w K mg base N qual (defScope st) f cdv A outer s H E
abbrev wA (E : XK) : WX := fun cls d _ H => E cls d H
theorem fn_okA {x qual : Str} {st : Stmt} {f : Addr} {fd : FuncData} {N ps : List Str} {k : Nat} {B : SF} (F : Fun K x qual st f fd) (S : FnScope N ps (defScope st))
    (hb : ∀ (cdv : Value) (A : Around) (outer : List PySem.Env) (s : Shared) (H : Hp) (E : XK), Room k (A.deeper (envOfC qual (defScope st) s.heap.objs.size f cdv)) → ASs (cxA P w K mg base N qual st f cdv A outer s H E) (wA E) (defBody st) B) :
    FnOk P w K mg base (L2.CX P w) (k + 1) f fd ps (spA ⟨K, w⟩ ps.length (bodyF N.length B)) := by
  refine F.okX S (fun vs H Q E h => h.1) fun cdv A outer s H vs Q E hr h => ⟨_, hb cdv A outer s H E hr, ?_⟩
  obtain ⟨hl, φ, S, ds, rh, r, f⟩ := h
  refine ⟨φ, _, S, rh, rl_start r, ?_⟩
  unfold bodyF at f
  cases z : B (startE N.length ds) S with
  | stuck => rw [z] at f; exact f.elim
  | exc xx S1 => rw [z] at f; exact fun φ' H' cv dx σ' x rh rx => f φ' H' cv dx x rh rx
  | ok o S1 =>
    rw [z] at f
    cases o with
    | nx ρ => exact fun φ' H' σ' x rh rl => f φ' H' .non x rh rv_non
    | ret d => exact f
    | bk ρ => exact f.elim
    | ct ρ => exact f.elim
    | xc y ρ => exact f.elim
/-- a def of which nothing is known: level 0 -/
theorem fn_ok0 {f : Addr} {fd : FuncData} {ps : List Str} {n : Nat} {CX : CXT} : FnOk P w K mg base CX 0 f fd ps (spA ⟨K, w⟩ n fun _ _ => .stuck) :=
  ⟨fun vs H Q E h => by obtain ⟨_, _, _, _, _, _, z⟩ := h; exact z.elim, fun A outer s H args us vs Q E _ _ _ _ h => by obtain ⟨_, _, _, _, _, _, z⟩ := h; exact z.elim⟩
end
/-- what is raised by a callee is taken -/
def Psd (X : Cx) (W : WX) : Prop := ∀ σ, PassesAt (L2.CX X.prog X.w) X σ (WE W σ)
theorem psd_of {X : Cx} {W : WX} (tk : Takes X W) : Psd X W := fun σ => passAt tk σ
theorem psd0 {X : Cx} : Psd X W0 := fun σ _ _ _ _ _ _ h => by
  obtain ⟨_, _, _, _, _, _, _, _, _, _, _, _, z⟩ := h
  exact z.elim
def eCallD (C : CF) (a : AF) : EF := fun ρ S => (a ρ S).bind fun ds S1 => C ds S1
/-- with defaults behind -/
def eCallDd (C : CF) (dds : List D) (a : AF) : EF := fun ρ S => (a ρ S).bind fun ds S1 => C (ds ++ dds) S1
section
variable {X : Cx} {W : WX} {k : Nat} {f : Addr} {fd : FuncData} {ps : List Str} {n : Nat} {C : CF} {x : Str} {p pos : Pos} {e : Expr} {es : List Expr} {Fr : AF}
theorem spA_of {K : KW} {φ : List Addr} {H : Hp} {S : Store} {ds : List D} {vs : List V} {Q : VK} {σ : St} (hl : vs.length = n) (rh : RH K φ H S) (r : RVs K φ H ds vs) (f : Fin K W φ H σ (C ds S) Q) : spA K n C vs H Q (WE W σ) := by
  refine ⟨hl, φ, S, ds, rh, r, ?_⟩
  cases z : C ds S with
  | ok d S1 => rw [z] at f; exact f
  | exc xx S1 => rw [z] at f; exact f
  | stuck => rw [z] at f; exact f
theorem lenOk {α : Type} {n : Nat} {ds : List D} {r : Res α} (h : (if ds.length = n then r else .stuck) ≠ .stuck) : ds.length = n := by
  by_cases e : ds.length = n
  · exact e
  · rw [if_neg e] at h; exact absurd rfl h
theorem ae_call (F : FnOk X.prog X.w X.kw X.mg X.base (L2.CX X.prog X.w) k f fd ps (spA X.kw (e :: es).length C)) (hr : Room k X.A) (hm : X.mg x = some (.ref f)) (hk : PySem.W.keepIn X.kw (.ref f) = true) (hb : Binds X.kw fd ps []) (hx : Psd X W)
    (ha : AA X W (e :: es) Fr) (hg : Gl X x := by rfl) (hdb : (x == ("__debug__" : Str)) = false := by decide) (he : starEach (e :: es) X.env = (false, eval e X.env) :: starEach es X.env := by rfl) (hpl : (backTo pos (starEach es X.env)).any (·.1) = false := by rfl)
    (hl : ∀ ρ S ds S', Fr ρ S = .ok ds S' → ds.length = (e :: es).length) :
    AE X W (.Call (.Name x p) (e :: es) [] pos) (eCallD C Fr) := by
  refine pe_mono (pe_callSD (E := WE W) F hr hg hm hk hb .nil hx ha hdb he hpl) fun σ H Q ⟨φ, ρ, S, rh, rl, f⟩ => ⟨φ, ρ, S, rh, rl, ?_⟩
  unfold eCallD at f
  cases z : Fr ρ S with
  | stuck => rw [z] at f; exact f.elim
  | exc xx S1 => rw [z] at f; exact f
  | ok ds S1 =>
    rw [z] at f
    intro φ1 H1 vs x1 rh1 rv1
    have f : Fin X.kw W φ H σ (C ds S1) Q := f
    rw [List.append_nil]
    exact spA_of (by rw [← rv1.length]; exact hl _ _ _ _ z) rh1 rv1 (f.ext x1)
theorem ae_callDd (dds : List D) {dvs : List V} {dus : List Value} (F : FnOk X.prog X.w X.kw X.mg X.base (L2.CX X.prog X.w) k f fd ps (spA X.kw ((e :: es).length + dds.length) C)) (hr : Room k X.A) (hm : X.mg x = some (.ref f)) (hk : PySem.W.keepIn X.kw (.ref f) = true) (hb : Binds X.kw fd ps dus) (hd : Vals dvs dus) (hdd : ∀ φ H, RVs X.kw φ H dds dvs) (hx : Psd X W)
    (ha : AA X W (e :: es) Fr) (hg : Gl X x := by rfl) (hdb : (x == ("__debug__" : Str)) = false := by decide) (he : starEach (e :: es) X.env = (false, eval e X.env) :: starEach es X.env := by rfl) (hpl : (backTo pos (starEach es X.env)).any (·.1) = false := by rfl)
    (hl : ∀ ρ S ds S', Fr ρ S = .ok ds S' → ds.length = (e :: es).length) :
    AE X W (.Call (.Name x p) (e :: es) [] pos) (eCallDd C dds Fr) := by
  refine pe_mono (pe_callSD (E := WE W) F hr hg hm hk hb hd hx ha hdb he hpl) fun σ H Q ⟨φ, ρ, S, rh, rl, f⟩ => ⟨φ, ρ, S, rh, rl, ?_⟩
  unfold eCallDd at f
  cases z : Fr ρ S with
  | stuck => rw [z] at f; exact f.elim
  | exc xx S1 => rw [z] at f; exact f
  | ok ds S1 =>
    rw [z] at f
    intro φ1 H1 vs x1 rh1 rv1
    have f : Fin X.kw W φ H σ (C (ds ++ dds) S1) Q := f
    exact spA_of (by rw [List.length_append, ← rv1.length, hl _ _ _ _ z, ← (hdd φ1 H1).length]) rh1 (rv1.append (hdd φ1 H1)) (f.ext x1)
end
/-- an argument list has its length -/
theorem len_nil : ∀ ρ S ds S', aNil ρ S = .ok ds S' → ds.length = 0 := fun ρ S ds S' e => by cases e; rfl
theorem len_cons {a : EF} {r : AF} {n : Nat} (h : ∀ ρ S ds S', r ρ S = .ok ds S' → ds.length = n) : ∀ ρ S ds S', aCons a r ρ S = .ok ds S' → ds.length = n + 1 := fun ρ S ds S' e => by
  unfold aCons at e
  cases z : a ρ S with
  | stuck => rw [z] at e; cases e
  | exc _ _ => rw [z] at e; cases e
  | ok d S1 =>
    rw [z, Res.bind_ok] at e
    cases z2 : r ρ S1 with
    | stuck => rw [z2] at e; cases e
    | exc _ _ => rw [z2] at e; cases e
    | ok ds2 S2 =>
      rw [z2, Res.bind_ok] at e
      cases e
      rw [List.length_cons, h _ _ _ _ z2]
end Al

set_option Elab.async false
set_option linter.all false
set_option maxRecDepth 100000
set_option maxHeartbeats 1000000
/-! Al: methods of built-in types, dicts, stores by place. -/
namespace Al
open PySem PySem.Spec PyProof.Rows L2
/-! ### methods -/
abbrev FM := D → List D → Store → Option (D × Store)
def MtA (X : Cx) (id : String) (g : FM) : Prop :=
  MtR X id (fun x xs H Q => ∃ φ S a ds d S', RH X.kw φ H S ∧ RV X.kw φ H a x ∧ RVs X.kw φ H ds xs ∧ g a ds S = some (d, S') ∧ ∀ φ' H' v, Ext X.kw φ H φ' H' → RH X.kw φ' H' S' → RV X.kw φ' H' d v → Q v H')
def tyD (T : String) (d : D) (S : Store) : Bool := match d with
  | .str _ => T == "str"
  | .ref n => match S[n]? with
    | some (.lst _) => T == "list"
    | some (.dct _) => T == "dict"
    | _ => false
  | _ => false
def eM (T : String) (g : FM) (o : EF) (a : AF) : EF := fun ρ S => (o ρ S).bind fun x S1 => if tyD T x S1 = true then (a ρ S1).bind fun ds S2 => .of (g x ds S2) else .stuck
theorem tyD_ok {K : KW} {φ : List Addr} {H : Hp} {S : Store} {T : String} {d : D} {v : V} (rh : RH K φ H S) (e : tyD T d S = true) (r : RV K φ H d v) : tyV K T v H := by
  cases d with
  | str x => rw [r.str_]; exact eq_of_beq e
  | ref n =>
    simp only [tyD] at e
    split at e
    · rename_i xs e1
      obtain ⟨p, rfl, g, vs, h1, _⟩ := rh.obj e1 r
      exact .inl ⟨eq_of_beq e, vs, .inl (.inl h1)⟩
    · rename_i xs e1
      obtain ⟨p, rfl, g, vs, h1, _⟩ := rh.obj e1 r
      exact .inr (.inr (.inl ⟨eq_of_beq e, .inl ⟨vs, h1⟩⟩))
    · cases e
  | _ => cases e
section
variable {X : Cx} {W : WX} {o e : Expr} {es : List Expr} {Fo : EF} {Fr : AF} {name : Str} {apos cpos : Pos} {T id : String} {g : FM}
theorem ae_m (pa : PlainAttrs T) (slot : Slot T name id) (hty : typeOf (.builtin id) = pure (.type "method_descriptor")) (hm : MtA X id g) (ho : AE X W o Fo) (ha : AA X W (e :: es) Fr)
    (hbase : attributeBase o name X.env (eval o X.env) = eval o X.env := by rfl)
    (hfew : ((backTo cpos (starEach (e :: es) X.env)).all (fun x => !x.1) && (backToKw cpos (keywordEach [] X.env)).all (fun x => x.1.isSome)
      && decide ((e :: es).length + ([] : List Keyword).length + (if ([] : List Keyword).isEmpty then 0 else 1) < 30)) = true := by rfl)
    (hline : (apos.endLine == cpos.line) = true := by rfl) (hs : starEach (e :: es) X.env = (false, eval e X.env) :: starEach es X.env := by rfl) (hplain : (backTo cpos (starEach es X.env)).any (·.1) = false := by rfl) :
    AE X W (.Call (.Attribute o name apos) (e :: es) [] cpos) (eM T g Fo Fr) := by
  refine pe_mono (pe_bm pa slot hty hm ho ha hbase hfew hline hs hplain) fun σ H Q ⟨φ, ρ, S, rh, rl, f⟩ => ⟨φ, ρ, S, rh, rl, (Fin.bind f).imp ?_⟩
  rintro v H1 ⟨φ1, S1, d, e1, rh1, rv1, f1⟩
  split at f1
  · rename_i ty
    refine ⟨tyD_ok rh1 ty rv1, φ1, ρ, S1, rh1, rl.ext e1, (FinA.bind f1).imp ?_⟩
    rintro vs H2 ⟨φ2, S2, ds, e2, rh2, rv2, f2⟩
    obtain ⟨d', S', e, k⟩ := fin_of f2
    exact ⟨φ2, S2, d, ds, d', S', rh2, rv1.ext e2, rv2, e, k⟩
  · exact f1.elim
theorem ae_m0 (pa : PlainAttrs T) (slot : Slot T name id) (hty : typeOf (.builtin id) = pure (.type "method_descriptor")) (hm : MtA X id g) (ho : AE X W o Fo)
    (hbase : attributeBase o name X.env (eval o X.env) = eval o X.env := by rfl) (hline : (apos.endLine == cpos.line) = true := by rfl) : AE X W (.Call (.Attribute o name apos) [] [] cpos) (eM T g Fo aNil) := by
  refine pe_mono (pe_bm0 pa slot hty hm ho hbase hline) fun σ H Q ⟨φ, ρ, S, rh, rl, f⟩ => ⟨φ, ρ, S, rh, rl, (Fin.bind f).imp ?_⟩
  rintro v H1 ⟨φ1, S1, d, e1, rh1, rv1, f1⟩
  split at f1
  · rename_i ty
    have f2 : Fin X.kw W φ1 H1 σ (.of (g d [] S1)) Q := f1
    obtain ⟨d', S', e, k⟩ := fin_of f2
    exact ⟨tyD_ok rh1 ty rv1, φ1, S1, d, [], d', S', rh1, rv1, .nil, e, k⟩
  · exact f1.elim
end
/-! lists -/
def appendM : FM
  | .ref n, [y], S => match S[n]? with
    | some (.lst xs) => if xs.length < lim then some (.non, S.set n (.lst (xs ++ [y]))) else none
    | _ => none
  | _, _, _ => none
def extendM : FM
  | .ref n, [.ref m], S => match S[n]?, S[m]? with
    | some (.lst xs), some (.lst ys) => if xs.length + ys.length ≤ lim then some (.non, S.set n (.lst (xs ++ ys))) else none
    | _, _ => none
  | _, _, _ => none
def popM : FM
  | .ref n, [], S => match S[n]? with
    | some (.lst xs) => (xs[xs.length - 1]?).map fun y => (y, S.set n (.lst xs.dropLast))
    | _ => none
  | .ref n, [.int i], S => match S[n]? with
    | some (.lst xs) => if -(2 ^ 63) ≤ i ∧ i < 2 ^ 63 then (ixN xs.length i).bind fun k => (xs[k]?).map fun y => (y, S.set n (.lst (xs.eraseIdx k))) else none
    | _ => none
  | _, _, _ => none
section
variable {X : Cx}
/-- a list is changed -/
theorem set_lst {K : KW} {φ : List Addr} {H : Hp} {S : Store} {n : Nat} {p : Addr} {vs ws : List V} {ys : List D} {d : D} {v : V} {Q : VK} (rh : RH K φ H S) (g : φ[n]? = some p) (h1 : H p = some (.lst vs)) (r : RVs K φ H ys ws) (rd : RV K φ H d v)
    (k : ∀ φ' H' v, Ext K φ H φ' H' → RH K φ' H' (S.set n (.lst ys)) → RV K φ' H' d v → Q v H') : Q v (upd H p (.lst ws)) := by
  have x := Ext.wr (K := K) (φ := φ) (o := HO.lst ws) (mu_lst h1)
  exact k φ _ v x (rh.set (x := .lst ys) g (mu_lst h1) (fun q hq => by rw [h1] at hq; cases hq) ⟨ws, upd_same, r.ext x⟩) (rd.ext x)
theorem mt_appendA : MtA X "list.append" appendM := by
  intro pins s σ H x xs v us Q I rx rs h
  obtain ⟨φ, S, a, ds, d, S', rh, ra, rd, e, k⟩ := h
  unfold appendM at e
  split at e
  · split at e
    · rename_i n y _ ys e1
      split at e
      · cases e
        rename_i hl
        obtain ⟨p, rfl, g, vs, h1, r⟩ := rh.obj e1 ra
        obtain ⟨w, rfl, rw'⟩ := rvs1 rd
        exact L2.mt_append pins s σ H _ _ v us Q I rx rs ⟨p, vs, w, rfl, rfl, h1, by rw [← r.length, lim_eq]; exact hl, set_lst rh g h1 (r.append (.cons rw' .nil)) rv_non k⟩
      · cases e
    · cases e
  · cases e
theorem mt_extendA : MtA X "list.extend" extendM := by
  intro pins s σ H x xs v us Q I rx rs h
  obtain ⟨φ, S, a, ds, d, S', rh, ra, rd, e, k⟩ := h
  unfold extendM at e
  split at e
  · split at e
    · rename_i n m _ _ ys zs e1 e2
      split at e
      · cases e
        rename_i hl
        obtain ⟨p, rfl, g, vs, h1, r⟩ := rh.obj e1 ra
        obtain ⟨w, rfl, rw'⟩ := rvs1 rd
        obtain ⟨p2, rfl, g2, ws, h2, r2⟩ := rh.obj e2 rw'
        exact L2.mt_extend pins s σ H _ _ v us Q I rx rs ⟨p, p2, vs, ws, rfl, rfl, h1, h2, by rw [← r.length, ← r2.length, lim_eq]; exact hl, set_lst rh g h1 (r.append r2) rv_non k⟩
      · cases e
    · cases e
  · cases e
theorem mt_popA : MtA X "list.pop" popM := by
  intro pins s σ H x xs v us Q I rx rs h
  obtain ⟨φ, S, a, ds, d, S', rh, ra, rd, e, k⟩ := h
  unfold popM at e
  split at e
  · split at e
    · rename_i n _ ys e1
      obtain ⟨y, e2, e3⟩ := mapOpt e
      cases e3
      obtain ⟨p, rfl, g, vs, h1, r⟩ := rh.obj e1 ra
      cases rd.nil_iff
      obtain ⟨w, e4, rw'⟩ := r.get e2
      exact L2.mt_pop pins s σ H _ _ v us Q I rx rs ⟨p, vs, w, rfl, rfl, h1, by rw [← r.length]; exact e4, set_lst rh g h1 r.dropLast rw' k⟩
    · cases e
  · split at e
    · rename_i n i _ ys e1
      split at e
      · rename_i hb
        obtain ⟨j, e2, e3⟩ := bindO e
        obtain ⟨y, e4, e5⟩ := mapOpt e3
        cases e5
        obtain ⟨p, rfl, g, vs, h1, r⟩ := rh.obj e1 ra
        obtain ⟨u1, rfl, ru⟩ := rvs1 rd
        obtain ⟨w, e6, rw'⟩ := r.get e4
        exact L2.mt_popAt pins s σ H _ _ v us Q I rx rs ⟨p, vs, i, j, w, rfl, by rw [ru.int_], h1, hb.1, hb.2, by rw [← r.length]; exact (ixN_seq e2).1, e6, set_lst rh g h1 (r.eraseIdx j) rw' k⟩
      · cases e
    · cases e
  · cases e
end
/-! texts -/
def joinL (s : List Nat) : List (List Nat) → List Nat
  | [] => []
  | [p] => p
  | p :: q :: r => p ++ (s ++ joinL s (q :: r))
def joinM : FM
  | .str s, [.ref n], S => ((lstAt S n).bind (mapO asStr)).bind fun l => if (l.map List.length).sum + l.length * s.length ≤ lim then some (.str (joinL s l), S) else none
  | _, _, _ => none
/-- split by one sign -/
def splitC (c : Nat) : List Nat → List (List Nat)
  | [] => [[]]
  | x :: r => if x = c then [] :: splitC c r else match splitC c r with
    | [] => [[x]]
    | p :: ps => (x :: p) :: ps
section
variable {X : Cx}
theorem joinL_eq (s : List Nat) : ∀ l : List (List Nat), (Str.join (toS s) (l.map toS)) = toS (joinL s l)
  | [] => rfl
  | [p] => rfl
  | p :: q :: r => by
    show toS p ++ toS s ++ Str.join (toS s) ((q :: r).map toS) = _
    rw [joinL_eq s (q :: r), toS_app, toS_app]
    show _ = toS (p ++ (s ++ joinL s (q :: r)))
    rw [List.append_assoc]
theorem mt_joinA : MtA X "str.join" joinM := by
  intro pins s σ H x xs v us Q I rx rs h
  obtain ⟨φ, S, a, ds, d, S', rh, ra, rd, e, k⟩ := h
  unfold joinM at e
  split at e
  · rename_i z n
    obtain ⟨l, e1, e2⟩ := bindO e
    obtain ⟨ys, e3, e4⟩ := bindO e1
    split at e2
    · cases e2
      rename_i hl
      obtain ⟨w, rfl, rw'⟩ := rvs1 rd
      obtain ⟨p, vs, rfl, sq, r⟩ := lstAt_ok rh e3 rw'
      have := asStr_all r e4
      subst this
      refine L2.mt_join pins s σ H _ _ v us Q I rx rs ⟨toS z, p, l.map toS, ra.str_, rfl, .inl sq, ?_, ?_⟩
      · rw [List.map_map, List.length_map, toS_len]
        have : (List.map ((fun x => x.length) ∘ toS) l) = l.map List.length := by
          apply List.map_congr_left
          intro y _
          exact toS_len y
        rw [this]
        exact hl
      · rw [TL.join_eq, joinL_eq]
        exact k φ H _ .refl rh rv_str
    · cases e2
  · cases e
end

/-! ### dicts -/
def dGet (kvs : List (List Nat × D)) (k : List Nat) : Option D := match kvs with
  | [] => none
  | p :: r => if p.1 = k then some p.2 else dGet r k
def dHas (kvs : List (List Nat × D)) (k : List Nat) : Bool := kvs.any fun p => decide (p.1 = k)
def dPut (kvs : List (List Nat × D)) (k : List Nat) (v : D) : List (List Nat × D) := if dHas kvs k = true then kvs.map (fun p => if p.1 = k then (p.1, v) else p) else kvs ++ [(k, v)]
def dDrop (kvs : List (List Nat × D)) (k : List Nat) : List (List Nat × D) := kvs.filter fun p => decide (p.1 ≠ k)
def dMerge (kvs more : List (List Nat × D)) : List (List Nat × D) := more.foldl (fun acc p => dPut acc p.1 p.2) kvs
def dctAt (S : Store) (n : Nat) : Option (List (List Nat × D)) := match S[n]? with
  | some (.dct kvs) => some kvs
  | _ => none
section
variable {K : KW} {φ : List Addr} {H : Hp}
theorem RKs.length : ∀ {ps : List (List Nat × D)} {qs : List (Key × V)}, RKs K φ H ps qs → ps.length = qs.length
  | [], qs, h => by rw [show qs = [] from h]; rfl
  | p :: ps, qs, h => by
    obtain ⟨x, r, rfl, _, h2⟩ := h
    rw [List.length_cons, List.length_cons, RKs.length h2]
theorem RKs.get : ∀ {ps : List (List Nat × D)} {qs : List (Key × V)} (k : List Nat), RKs K φ H ps qs → (∀ d, dGet ps k = some d → ∃ v, valV qs (.inr (toS k)) = some v ∧ RV K φ H d v) ∧ (dGet ps k = none → valV qs (.inr (toS k)) = none)
  | [], qs, k, h => by rw [show qs = [] from h]; exact ⟨fun d e => (by cases e), fun _ => rfl⟩
  | p :: ps, qs, k, h => by
    obtain ⟨x, r, rfl, ⟨h0, h1⟩, h2⟩ := h
    unfold dGet
    by_cases e : p.1 = k
    · have : x.1 = .inr (toS k) := by rw [h0, e]
      rw [if_pos e, valV_pos this]
      exact ⟨fun d z => (by cases z; exact ⟨_, rfl, h1⟩), fun z => (by cases z)⟩
    · have : ¬ x.1 = .inr (toS k) := by rw [h0]; exact fun z => e (toS_inj (Sum.inr.inj z))
      rw [if_neg e, valV_neg this]
      exact RKs.get k h2
theorem RKs.append : ∀ {ps rs : List (List Nat × D)} {qs ts : List (Key × V)}, RKs K φ H ps qs → RKs K φ H rs ts → RKs K φ H (ps ++ rs) (qs ++ ts)
  | [], rs, qs, ts, h, h' => by rw [show qs = [] from h]; exact h'
  | p :: ps, rs, qs, ts, h, h' => by
    obtain ⟨x, r, rfl, h1, h2⟩ := h
    exact ⟨x, r ++ ts, rfl, h1, RKs.append h2 h'⟩
theorem RKs.has (k : List Nat) : ∀ {ps : List (List Nat × D)} {qs : List (Key × V)}, RKs K φ H ps qs → (qs.any fun kv => decide (kv.1 = .inr (toS k))) = dHas ps k
  | [], qs, h => by rw [show qs = [] from h]; rfl
  | p :: ps, qs, h => by
    obtain ⟨x, r, rfl, ⟨h0, h1⟩, h2⟩ := h
    unfold dHas
    rw [List.any_cons, List.any_cons, RKs.has k h2]
    congr 1
    rw [h0]
    by_cases e : p.1 = k
    · rw [e]; simp
    · rw [decide_eq_false e, decide_eq_false fun z => e (toS_inj (Sum.inr.inj z))]
theorem RKs.repl {d : D} {v : V} (rv : RV K φ H d v) (k : List Nat) : ∀ {ps : List (List Nat × D)} {qs : List (Key × V)}, RKs K φ H ps qs →
    RKs K φ H (ps.map fun p => if p.1 = k then (p.1, d) else p) (qs.map fun kv => if kv.1 = .inr (toS k) then (kv.1, v) else kv)
  | [], qs, h => by rw [show qs = [] from h]; rfl
  | p :: ps, qs, h => by
    obtain ⟨x, r, rfl, ⟨h0, h1⟩, h2⟩ := h
    rw [List.map_cons, List.map_cons]
    refine ⟨_, _, rfl, ?_, RKs.repl rv k h2⟩
    by_cases e : p.1 = k
    · rw [if_pos e, if_pos (by rw [h0, e])]
      exact ⟨h0, rv⟩
    · rw [if_neg e, if_neg (by rw [h0]; exact fun z => e (toS_inj (Sum.inr.inj z)))]
      exact ⟨h0, h1⟩
theorem RKs.put {d : D} {v : V} (rv : RV K φ H d v) (k : List Nat) {ps : List (List Nat × D)} {qs : List (Key × V)} (h : RKs K φ H ps qs) : RKs K φ H (dPut ps k d) (putK qs (.inr (toS k)) v) := by
  unfold dPut putK
  rw [h.has k]
  split
  · exact h.repl rv k
  · exact h.append ⟨_, [], rfl, ⟨rfl, rv⟩, rfl⟩
theorem RKs.drop (k : List Nat) : ∀ {ps : List (List Nat × D)} {qs : List (Key × V)}, RKs K φ H ps qs → RKs K φ H (dDrop ps k) (dropK qs (.inr (toS k)))
  | [], qs, h => by rw [show qs = [] from h]; rfl
  | p :: ps, qs, h => by
    obtain ⟨x, r, rfl, ⟨h0, h1⟩, h2⟩ := h
    have ih := RKs.drop k h2
    unfold dDrop dropK at ih ⊢
    by_cases e : p.1 = k
    · rw [List.filter_cons_of_neg (by simp [e]), List.filter_cons_of_neg (by simp [h0, e])]
      exact ih
    · rw [List.filter_cons_of_pos (by simp [e]), List.filter_cons_of_pos (by rw [h0]; simp only [ne_eq, decide_eq_true_eq]; exact fun z => e (toS_inj (Sum.inr.inj z)))]
      exact ⟨x, _, rfl, ⟨h0, h1⟩, ih⟩
theorem dctAt_ok {S : Store} {n : Nat} {kvs : List (List Nat × D)} {v : V} (rh : RH K φ H S) (e : dctAt S n = some kvs) (r : RV K φ H (.ref n) v) : ∃ p vs, v = .ref p ∧ φ[n]? = some p ∧ H p = some (.dK vs) ∧ RKs K φ H kvs vs := by
  unfold dctAt at e
  split at e
  · rename_i ys e1
    cases e
    obtain ⟨p, rfl, g, vs, h1, rs⟩ := rh.obj e1 r
    exact ⟨p, vs, rfl, g, h1, rs⟩
  · cases e
/-- a dict is changed -/
theorem set_dct {S : Store} {n : Nat} {p : Addr} {vs ws : List (Key × V)} {ys : List (List Nat × D)} (rh : RH K φ H S) (g : φ[n]? = some p) (h1 : H p = some (.dK vs)) (r : RKs K φ H ys ws) :
    Ext K φ H φ (upd H p (.dK ws)) ∧ RH K φ (upd H p (.dK ws)) (S.set n (.dct ys)) := by
  have x := Ext.wr (K := K) (φ := φ) (o := HO.dK ws) (mu_dK h1)
  exact ⟨x, rh.set (x := .dct ys) g (mu_dK h1) (fun q hq => by rw [h1] at hq; cases hq) ⟨ws, upd_same, r.ext x⟩⟩
end
/-! {}, {k: v, ..} -/
def eD0 : EF := fun _ S => .ok (.ref S.length) (S ++ [.dct []])
abbrev PFs := Env → Store → Res (List (D × D))
def qNil : PFs := fun _ S => .ok [] S
def qCons (k v : EF) (r : PFs) : PFs := fun ρ S => (k ρ S).bind fun x S1 => (v ρ S1).bind fun y S2 => (r ρ S2).bind fun ps S3 => .ok ((x, y) :: ps) S3
def asKey (p : D × D) : Option (List Nat × D) := match p.1 with
  | .str k => some (k, p.2)
  | _ => none
def eDisp (q : PFs) : EF := fun ρ S => (q ρ (S ++ [.dct []])).bind fun ps S1 => match S1[S.length]?, mapO asKey ps with
  | some (.dct []), some kvs => if kvs.length ≤ 15 then .ok (.ref S.length) (S1.set S.length (.dct (dMerge [] kvs))) else .stuck
  | _, _ => .stuck

theorem new_dct {K : KW} {φ : List Addr} {H : Hp} {S : Store} {ks : List (List Nat × D)} {vs : List (Key × V)} {q : Addr} (rh : RH K φ H S) (r : RKs K φ H ks vs) (hq : H q = none) :
    Ext K φ H (φ ++ [q]) (upd H q (.dK vs)) ∧ RH K (φ ++ [q]) (upd H q (.dK vs)) (S ++ [.dct ks]) ∧ RV K (φ ++ [q]) (upd H q (.dK vs)) (.ref S.length) (.ref q) := by
  have x := Ext.num (K := K) (φ := φ) (o := HO.dK vs) hq
  exact ⟨x, rh.alloc (x := .dct ks) (o := HO.dK vs) hq ⟨_, upd_same, r.ext x⟩, rv_ref (by rw [← rh.len]; simp)⟩
section
variable {X : Cx} {W : WX} {pos : Pos}
theorem ae_d0 : AE X W (.Dict [] [] pos) eD0 := pe_mono pe_dnewK fun σ H Q ⟨φ, ρ, S, rh, rl, f⟩ p hp => by
  obtain ⟨x, a, b⟩ := new_dct (ks := []) (vs := []) rh rfl hp
  exact f _ _ _ x a b
/-- the pairs of a display -/
structure AQ (X : Cx) (W : WX) (pos : Pos) (keys : List (Option Expr)) (values : List Expr) (F : PFs) : Prop where
  trs : ∃ trs, PPs X pos keys values trs ∧ ∀ σ H (Q : List (V × V) → Hp → Prop) φ ρ S, RH X.kw φ H S → RL X.kw φ H σ ρ → (match F ρ S with
    | .ok ps S' => ∀ φ' H' vs, Ext X.kw φ H φ' H' → RH X.kw φ' H' S' → (∃ ks ws, RVs X.kw φ' H' (ps.map (·.1)) ks ∧ RVs X.kw φ' H' (ps.map (·.2)) ws ∧ vs = ks.zip ws) → Q vs H'
    | .exc x S' => ∀ φ' H' cv dx, Ext X.kw φ H φ' H' → RH X.kw φ' H' S' → RX X.kw φ' H' x cv dx → W cv dx σ H'
    | .stuck => False) → tPairs trs σ H Q
theorem aq_nil : AQ X W pos [] [] qNil := ⟨⟨[], pps_nil, fun σ H Q φ ρ S rh rl f => f φ H [] .refl rh ⟨[], [], .nil, .nil, rfl⟩⟩⟩
theorem aq_cons {k v : Expr} {ks : List (Option Expr)} {vs : List Expr} {Fk Fv : EF} {Fq : PFs} (hk : AE X W k Fk) (hv : AE X W v Fv) (hr : AQ X W pos ks vs Fq) : AQ X W pos (some k :: ks) (v :: vs) (qCons Fk Fv Fq) := by
  obtain ⟨trs, h1, h2⟩ := hr.trs
  refine ⟨⟨_, pps_cons hk hv h1, fun σ H Q φ ρ S rh rl f => ?_⟩⟩
  unfold qCons at f
  refine ⟨φ, ρ, S, rh, rl, ?_⟩
  cases z : Fk ρ S with
  | stuck => rw [z] at f; exact f.elim
  | exc x S1 => rw [z] at f; exact f
  | ok d1 S1 =>
    rw [z, Res.bind_ok] at f
    intro φ1 H1 v1 x1 rh1 rv1
    refine ⟨φ1, ρ, S1, rh1, rl.ext x1, ?_⟩
    cases z2 : Fv ρ S1 with
    | stuck => rw [z2] at f; exact f.elim
    | exc x S2 => rw [z2] at f; exact fun φ' H' cv dx x => f φ' H' cv dx (x1.trans x)
    | ok d2 S2 =>
      rw [z2, Res.bind_ok] at f
      intro φ2 H2 v2 x2 rh2 rv2
      refine h2 σ H2 _ φ2 ρ S2 rh2 ((rl.ext x1).ext x2) ?_
      cases z3 : Fq ρ S2 with
      | stuck => rw [z3] at f; exact f.elim
      | exc x S3 => rw [z3] at f; exact fun φ' H' cv dx x => f φ' H' cv dx ((x1.trans x2).trans x)
      | ok ps S3 =>
        rw [z3, Res.bind_ok] at f
        intro φ3 H3 vs3 x3 rh3 ⟨ks3, ws3, r1, r2, e3⟩
        exact f φ3 H3 _ ((x1.trans x2).trans x3) rh3 ⟨v1 :: ks3, v2 :: ws3, .cons ((rv1.ext x2).ext x3) r1, .cons (rv2.ext x3) r2, by rw [e3]; rfl⟩
theorem asKey_all {K : KW} {φ : List Addr} {H : Hp} : ∀ {ps : List (D × D)} {kvs : List (List Nat × D)} {ks ws : List V}, mapO asKey ps = some kvs → RVs K φ H (ps.map (·.1)) ks → RVs K φ H (ps.map (·.2)) ws →
    ∃ qs : List (Key × V), ks.zip ws = qs.map (fun kv => (kV kv.1, kv.2)) ∧ RKs K φ H kvs qs ∧ qs.length = kvs.length
  | [], kvs, ks, ws, e, h1, h2 => by
    cases e
    cases h1.nil_iff
    exact ⟨[], rfl, rfl, rfl⟩
  | p :: ps, kvs, ks, ws, e, h1, h2 => by
    obtain ⟨v, r, rfl, a1, a2⟩ := RVs.cons_iff h1
    obtain ⟨v2, r2, rfl, b1, b2⟩ := RVs.cons_iff h2
    simp only [mapO] at e
    split at e
    · rename_i y ys e1 e2
      cases e
      obtain ⟨qs, q1, q2, q3⟩ := asKey_all e2 a2 b2
      unfold asKey at e1
      split at e1
      · rename_i k ek
        cases e1
        have a1 : RV K φ H p.1 v := a1
        rw [ek] at a1
        refine ⟨(.inr (toS k), v2) :: qs, ?_, ⟨_, _, rfl, ⟨rfl, b1⟩, q2⟩, by simp [q3]⟩
        rw [List.zip_cons_cons, q1, a1.str_]
        rfl
      · cases e1
    · cases e
theorem RKs.merge {K : KW} {φ : List Addr} {H : Hp} : ∀ {more : List (List Nat × D)} {rs : List (Key × V)} {kvs : List (List Nat × D)} {vs : List (Key × V)}, RKs K φ H more rs → RKs K φ H kvs vs → RKs K φ H (dMerge kvs more) (mergeK vs rs)
  | [], rs, kvs, vs, h, h2 => by rw [show rs = [] from h]; exact h2
  | p :: ps, rs, kvs, vs, h, h2 => by
    obtain ⟨x, r, rfl, ⟨h0, h1⟩, h3⟩ := h
    show RKs K φ H (dMerge (dPut kvs p.1 p.2) ps) (mergeK (putK vs x.1 x.2) r)
    rw [h0]
    exact RKs.merge h3 (h2.put h1 p.1)
theorem ae_disp {keys : List (Option Expr)} {values : List Expr} {Fq : PFs} (h : AQ X W pos keys values Fq) (hall : keys.all (·.isSome) = true := by rfl) (hl : keys.length = values.length := by rfl) (h0 : keys ≠ [] := by exact fun z => nomatch z) (h15 : keys.length ≤ 15 := by decide) : AE X W (.Dict keys values pos) (eDisp Fq) := by
  obtain ⟨trs, h1, h2⟩ := h.trs
  refine pe_mono (pe_disp h1 hall hl h0 h15) fun σ H Q ⟨φ, ρ, S, rh, rl, f⟩ p hp => ?_
  obtain ⟨x, a, b⟩ := new_dct (ks := []) (vs := []) rh rfl hp
  refine h2 σ _ _ _ ρ (S ++ [.dct []]) a (rl.ext x) ?_
  unfold eDisp at f
  cases z : Fq ρ (S ++ [.dct []]) with
  | stuck => rw [z] at f; exact f.elim
  | exc xx S1 => rw [z] at f; exact fun φ' H' cv dx y => f φ' H' cv dx (x.trans y)
  | ok ps S1 =>
    rw [z, Res.bind_ok] at f
    intro φ1 H1 vs x1 rh1 ⟨ks, ws, r1, r2, ev⟩
    split at f
    · rename_i kvs e1 e2
      split at f
      · rename_i hl15
        have gp : φ1[S.length]? = some p := pre_get x1.pre (by rw [← rh.len]; simp)
        obtain ⟨vs0, hv0, r0⟩ := rh1.at_ _ _ _ e1 gp
        have e0 : vs0 = [] := r0
        subst e0
        obtain ⟨qs, q1, q2, q3⟩ := asKey_all e2 r1 r2
        refine ⟨hv0, qs, by rw [ev, q1], by rw [q3]; exact hl15, ?_⟩
        obtain ⟨x3, rh3⟩ := set_dct rh1 gp hv0 (q2.merge (kvs := []) (vs := []) rfl)
        exact f _ _ _ ((x.trans x1).trans x3) rh3 (rv_ref gp)
      · exact f.elim
    · exact f.elim
end
/-! d[k], k in d, d[k] = v -/
def dixO : F2
  | .ref n, .str k, S => ((dctAt S n).bind fun kvs => dGet kvs k).map fun d => (d, S)
  | _, _, _ => none
def dinB (a b : D) (S : Store) : Option Bool := match a, b with
  | .str k, .ref n => (dctAt S n).map fun kvs => (dGet kvs k).isSome
  | _, _ => none
def dinO : F2 := fun a b S => (dinB a b S).map fun k => (.bl k, S)
def dnotInO : F2 := fun a b S => (dinB a b S).map fun k => (.bl (!k), S)
/-- o[i] = v -/
def putO (o i v : D) (S : Store) : Option Store := match o, i with
  | .ref n, .str k => (dctAt S n).bind fun kvs => if kvs.length < lim then some (S.set n (.dct (dPut kvs k v))) else none
  | _, _ => none
def lputO (o i v : D) (S : Store) : Option Store := match o, i with
  | .ref n, .int k => match S[n]? with
    | some (.lst xs) => (ixN xs.length k).map fun j => S.set n (.lst (xs.set j v))
    | _ => none
  | _, _ => none
def sPut (g : D → D → D → Store → Option Store) (v o i : EF) : SF := fun ρ S => (v ρ S).bind fun x S1 => (o ρ S1).bind fun y S2 => (i ρ S2).bind fun z S3 => match g y z x S3 with
  | some S4 => .ok (.nx ρ) S4
  | none => .stuck
section
variable {X : Cx} {W : WX} {o i value : Expr} {Fo Fi Fv : EF} {pos pos' : Pos}
theorem ae_dget (hu : X.A.units + 1 < cLine) (ho : AE X W o Fo) (hi : AE X W i Fi) (hs : NoSl i := by exact fun _ _ => rfl) : AE X W (.Subscript o i pos) (eOp dixO Fo Fi) := by
  refine pe_mono (pe_dget hu ho hi hs) fun σ H Q h => ?_
  refine (two_parts h).imp fun x H1 h1 => h1.imp fun y H2 ⟨φ, S, dx, dy, rh, rx, ry, fi⟩ => ?_
  obtain ⟨d, S', e, k⟩ := fin_of fi
  unfold dixO at e
  split at e
  · obtain ⟨d', e1, e2⟩ := mapOpt e
    cases e2
    obtain ⟨kvs, e3, e4⟩ := bindO e1
    obtain ⟨p, vs, rfl, g, h1, r⟩ := dctAt_ok rh e3 rx
    obtain ⟨v, e5, rv⟩ := (r.get _).1 _ e4
    exact ⟨p, v, rfl, by rw [ry.str_, ← e5]; exact DGet.k (k := .inr _) h1, k φ H2 v .refl rh rv⟩
  · cases e
theorem din_run {K : KW} {φ : List Addr} {H : Hp} {S : Store} {a b : D} {x y : V} {t : Bool} (rh : RH K φ H S) (ra : RV K φ H a y) (rb : RV K φ H b x) (e : dinB a b S = some t) : ∃ p ov, x = .ref p ∧ DGet H p y ov ∧ ov.isSome = t := by
  unfold dinB at e
  split at e
  · obtain ⟨kvs, e1, e2⟩ := mapOpt e
    obtain ⟨p, vs, rfl, g, h1, r⟩ := dctAt_ok rh e1 rb
    refine ⟨p, _, rfl, by rw [ra.str_]; exact DGet.k (k := .inr _) h1, ?_⟩
    rw [← e2]
    rename_i k _
    cases z : dGet kvs k with
    | none => rw [(r.get k).2 z]; rfl
    | some d => obtain ⟨v, e5, _⟩ := (r.get k).1 d z; rw [e5]; rfl
  · cases e
theorem ae_din (hu : X.A.units + 1 < cLine) (hi : AE X W i Fi) (ho : AE X W o Fo) (h1 : behindInMarks .In o = false := by rfl) : AE X W (.Compare i [.In] [o] pos) (eOp dinO Fi Fo) := by
  refine pe_mono (pe_cmp (pc_din hu hi ho) h1) fun σ H Q h => ?_
  refine (two_parts h).imp fun y H1 h1 => h1.imp fun x H2 ⟨φ, S, dx, dy, rh, rx, ry, fi⟩ => ?_
  obtain ⟨d, S', e, k⟩ := fin_of fi
  obtain ⟨t, e1, e2⟩ := mapOpt e
  cases e2
  obtain ⟨p, ov, q1, q2, q3⟩ := din_run rh rx ry e1
  exact ⟨p, ov, q1, q2, by rw [q3]; exact k φ H2 _ .refl rh rv_bl⟩
theorem ae_dnotin (hu : X.A.units + 1 < cLine) (hi : AE X W i Fi) (ho : AE X W o Fo) (h1 : behindInMarks .NotIn o = false := by rfl) : AE X W (.Compare i [.NotIn] [o] pos) (eOp dnotInO Fi Fo) := by
  refine pe_mono (pe_cmp (pc_dnotin hu hi ho) h1) fun σ H Q h => ?_
  refine (two_parts h).imp fun y H1 h1 => h1.imp fun x H2 ⟨φ, S, dx, dy, rh, rx, ry, fi⟩ => ?_
  obtain ⟨d, S', e, k⟩ := fin_of fi
  obtain ⟨t, e1, e2⟩ := mapOpt e
  cases e2
  obtain ⟨p, ov, q1, q2, q3⟩ := din_run rh rx ry e1
  exact ⟨p, ov, q1, q2, by rw [q3]; exact k φ H2 _ .refl rh rv_bl⟩
theorem at_din (hu : X.A.units + 1 < cLine) (hi : AE X W i Fi) (ho : AE X W o Fo) (h1 : behindInMarks .In o = false := by rfl) : AT X W (.Compare i [.In] [o] pos) (tOf (eOp dinO Fi Fo)) := by
  refine pt_mono (pt_cmp (pc_din hu hi ho) h1) fun σ H Q h => ?_
  refine (two_parts (test_run h)).imp fun y H1 h1 => h1.imp fun x H2 ⟨φ, S, dx, dy, rh, rx, ry, fi⟩ => ?_
  obtain ⟨d, S', e, k⟩ := fin_of fi
  obtain ⟨t, e1, e2⟩ := mapOpt e
  cases e2
  obtain ⟨p, ov, q1, q2, q3⟩ := din_run rh rx ry e1
  exact ⟨p, ov, q1, q2, by rw [q3]; exact k φ H2 _ .refl rh rv_bl⟩
theorem at_dnotin (hu : X.A.units + 1 < cLine) (hi : AE X W i Fi) (ho : AE X W o Fo) (h1 : behindInMarks .NotIn o = false := by rfl) : AT X W (.Compare i [.NotIn] [o] pos) (tOf (eOp dnotInO Fi Fo)) := by
  refine pt_mono (pt_cmp (pc_dnotin hu hi ho) h1) fun σ H Q h => ?_
  refine (two_parts (test_run h)).imp fun y H1 h1 => h1.imp fun x H2 ⟨φ, S, dx, dy, rh, rx, ry, fi⟩ => ?_
  obtain ⟨d, S', e, k⟩ := fin_of fi
  obtain ⟨t, e1, e2⟩ := mapOpt e
  cases e2
  obtain ⟨p, ov, q1, q2, q3⟩ := din_run rh rx ry e1
  exact ⟨p, ov, q1, q2, by rw [q3]; exact k φ H2 _ .refl rh rv_bl⟩
/-- the three parts of a store -/
theorem put_run {K : KW} {g : D → D → D → Store → Option Store} {D' : Ends} {σ : St} {H : Hp} (h : tFS K W (sPut g Fv Fo Fi) D' σ H) :
    tF K W Fv σ H fun v H1 => tF K W Fo σ H1 fun x H2 => tF K W Fi σ H2 fun y H3 => ∃ φ S dv dx dy S', RH K φ H3 S ∧ RV K φ H3 dv v ∧ RV K φ H3 dx x ∧ RV K φ H3 dy y ∧ g dx dy dv S = some S' ∧ ∀ φ' H', Ext K φ H3 φ' H' → RH K φ' H' S' → D'.nx σ H' := by
  obtain ⟨φ, ρ, S, rh, rl, f⟩ := h
  refine ⟨φ, ρ, S, rh, rl, (Fin.bindS trivial f).imp ?_⟩
  rintro v H1 ⟨φ1, S1, d1, e1, rh1, rv1, f1⟩
  refine ⟨φ1, ρ, S1, rh1, rl.ext e1, (Fin.bindS trivial f1).imp ?_⟩
  rintro x H2 ⟨φ2, S2, d2, e2, rh2, rv2, f2⟩
  refine ⟨φ2, ρ, S2, rh2, (rl.ext e1).ext e2, (Fin.bindS trivial f2).imp ?_⟩
  rintro y H3 ⟨φ3, S3, d3, e3, rh3, rv3, f3⟩
  split at f3
  · rename_i S4 eg
    exact ⟨φ3, S3, d1, d2, d3, S4, rh3, (rv1.ext e2).ext e3, rv2.ext e3, rv3, eg, fun φ' H' x' rh' => f3 φ' H' σ x' rh' ((((rl.ext e1).ext e2).ext e3).ext x')⟩
  · exact f3.elim
theorem as_dput (hu : X.A.units + 1 < cLine) (ho : AE X W o Fo) (hi : AE X W i Fi) (hv : AE X W value Fv) (hs : swapsWith value (some (.Subscript o i pos')) pos.line X.env = pure false := by rfl) : AS X W (.Assign [.Subscript o i pos'] value pos) (sPut putO Fv Fo Fi) := by
  refine ps_mono (ps_dput hu ho hi hv hs) fun D' σ H h => ?_
  refine (put_run h).imp fun v H1 h1 => h1.imp fun x H2 h2 => h2.imp fun y H3 ⟨φ, S, dv, dx, dy, S', rh, rv, rx, ry, e, k⟩ => ?_
  unfold putO at e
  split at e
  · obtain ⟨kvs, e1, e2⟩ := bindO e
    split at e2
    · cases e2
      rename_i hl
      obtain ⟨p, vs, rfl, g, h1, r⟩ := dctAt_ok rh e1 rx
      obtain ⟨x3, rh3⟩ := set_dct rh g h1 (r.put rv _)
      exact ⟨p, _, rfl, by rw [ry.str_]; exact DPut.k (k := .inr _) h1 (by rw [← r.length, lim_eq]; exact hl), k φ _ x3 rh3⟩
    · cases e2
  · cases e
theorem as_lput (ho : AE X W o Fo) (hi : AE X W i Fi) (hv : AE X W value Fv)
    (ha : ∀ v, assign (.Subscript o i pos') X.env v = (do
      let ov ← holding [v] (eval o X.env)
      let iv ← holding [v, ov] (eval i X.env)
      standAt pos'
      holding [v, ov, iv] (setItem ov iv v)
      release [v, ov, iv] []) := by intro _; rfl) (hs : swapsWithSole [.Subscript o i pos'] value pos.line X.env = pure false := by rfl) (hw : swappedStores [.Subscript o i pos'] value X.env = pure none := by rfl)
    (h1 : (assignEach [.Subscript o i pos'] X.env).map (·.2) = [assign (.Subscript o i pos') X.env] := by rfl) : AS X W (.Assign [.Subscript o i pos'] value pos) (sPut lputO Fv Fo Fi) := by
  refine ps_mono (ps_asg hv (pg_sub ho hi set_list ha) hs hw h1) fun D' σ H h => ?_
  refine (put_run h).imp fun v H1 h1 => h1.imp fun x H2 h2 => h2.imp fun y H3 ⟨φ, S, dv, dx, dy, S', rh, rv, rx, ry, e, k⟩ => ?_
  unfold lputO at e
  split at e
  · split at e
    · rename_i ys e1
      obtain ⟨j, e2, e3⟩ := mapOpt e
      cases e3
      obtain ⟨p, rfl, g, vs, h1, r⟩ := rh.obj e1 rx
      refine ⟨p, vs, _, j, rfl, ry.int_, h1, by rw [← r.length]; exact e2, ?_⟩
      have x3 := Ext.wr (K := X.kw) (φ := φ) (o := HO.lst (vs.set j v)) (mu_lst h1)
      exact k φ _ x3 (rh.set (x := .lst (ys.set j dv)) g (mu_lst h1) (fun q hq => by rw [h1] at hq; cases hq) ⟨_, upd_same, (r.set rv j).ext x3⟩)
    · cases e
  · cases e
end
end Al

set_option Elab.async false
set_option linter.all false
set_option maxRecDepth 100000
set_option maxHeartbeats 1000000
/-! Al: defs again, with what is known of the guards (repr of containers asks for it). -/
namespace Al
open PySem PySem.Spec PyProof.Rows L2
/-- room, and no repr under way -/
structure RoomG (k : Nat) (A : Around) : Prop where
  rm : Room k A
  gd : A.guards = some []
theorem RoomG.deeper {k : Nat} {A : Around} (r : RoomG (k + 1) A) (env : PySem.Env) : RoomG k (A.deeper env) := ⟨r.rm.deeper env, r.gd⟩
/-- a def that keeps its promise where no repr is under way -/
structure FnG (P : Program) (w : World) (K : PySem.W.Frag) (mg : Str → Option Value) (base : Heap) (k : Nat) (f : Addr) (fd : FuncData) (ps : List Str) (sp : Sp) : Prop where
  cnt : ∀ vs H Q E, sp vs H Q E → vs.length = ps.length
  go : ∀ (A : Around) (rest : List PySem.Env) (z : Shared) (H : Hp) (ar : Args) (us : List Value) (vs : List V) (Q : VK) (E : XK), RoomG k A → Env0 P w K mg base A rest z H → BindsTo z fd ar (ps.zip us) → Vals vs us → sp vs H Q E →
    codeAny (model P w) A (.call (.ref f) ar) (CR (L2.CX P w) rest P w H z Q E) z
theorem FnG.zero {P : Program} {w : World} {K : PySem.W.Frag} {mg : Str → Option Value} {base : Heap} {f : Addr} {fd : FuncData} {ps : List Str} {n k : Nat} : FnG P w K mg base k f fd ps (spA ⟨K, w⟩ n fun _ _ => .stuck) :=
  ⟨fun vs H Q E h => by obtain ⟨_, _, _, _, _, _, z⟩ := h; exact z.elim, fun A rest z H ar us vs Q E _ _ _ _ h => by obtain ⟨_, _, _, _, _, _, z⟩ := h; exact z.elim⟩
section
variable {P : Program} {w : World} {K : PySem.W.Frag} {mg : Str → Option Value} {base : Heap}
theorem fn_okG {x qual : Str} {st : Stmt} {f : Addr} {fd : FuncData} {N ps : List Str} {k : Nat} {B : SF} (F : Fun K x qual st f fd) (S : FnScope N ps (defScope st))
    (hb : ∀ (cdv : Value) (A : Around) (outer : List PySem.Env) (s : Shared) (H : Hp) (E : XK), RoomG k (A.deeper (envOfC qual (defScope st) s.heap.objs.size f cdv)) → ASs (cxA P w K mg base N qual st f cdv A outer s H E) (wA E) (defBody st) B) :
    FnG P w K mg base (k + 1) f fd ps (spA ⟨K, w⟩ ps.length (bodyF N.length B)) := by
  obtain ⟨oc, od, kV, doc, pm, an, cdv, ct, osl, rfl, lk, hcd⟩ := F.ex
  refine ⟨fun vs H Q E h => h.1, fun A rest z H ar us vs Q E room e0 bd rel pr => ?_⟩
  have inH : K.In z.heap := e0.mod.kin.keeps fun b o q => (e0.bs b o q).1
  have kinds : ∀ y ∈ ps.zip us, (defScope st).names.lookup y.1 = some .local ∨ ((defScope st).names.lookup y.1 = some .cell ∧ ((cellsFrom (z.heap.objs.size + 1) (defScope st).names []).lookup y.1).isSome = true) := by
    rintro ⟨n, v⟩ hy
    exact (S.par n (List.of_mem_zip hy).1).imp id fun q => ⟨q, PySem.W.cellsFrom_some _ _ _ (.inl q)⟩
  refine codeAny_call_function room.rm.depth (inH _ _ lk) rfl S.co S.gen rfl (PySem.W.codeRec_of inH hcd) (bd _ _ _ _ ?_)
  refine wpAny_newFunctionEnv_cells S.kind kinds ?_
  rintro env rfl s1 x
  refine ⟨(e0.mod.nolimit.keeps fun b o q => (e0.bs b o q).1).keeps x.toInCall.keep, codeAny_func ?_⟩
  have I0 : Inv (cxA P w K mg base N qual st f cdv A rest z H E) [] (L2.start N vs) H s1 := inv_start S room.rm.hd e0 pr.1 rel x
  obtain ⟨hl, φ, S0, ds, rh, r, f0⟩ := pr
  have T : tFS ⟨K, w⟩ (wA E) B { nx := fun _ H' => Q .non H', rt := Q } (L2.start N vs) H := by
    refine ⟨φ, _, S0, rh, rl_start r, ?_⟩
    unfold bodyF at f0
    cases zz : B (startE N.length ds) S0 with
    | stuck => rw [zz] at f0; exact f0.elim
    | exc xx S1 => rw [zz] at f0; exact fun φ' H' cv dx σ' x rh rx => f0 φ' H' cv dx x rh rx
    | ok o S1 =>
      rw [zz] at f0
      cases o with
      | nx ρ => exact fun φ' H' σ' x rh rl => f0 φ' H' .non x rh rv_non
      | ret d => exact f0
      | bk ρ => exact f0.elim
      | ct ρ => exact f0.elim
      | xc y ρ => exact f0.elim
  refine wpAny_mono ((hb cdv A rest z H E (room.deeper _)).run [] s1 _ H _ I0 T) (fun fl s2 out => ?_) fun _ _ out => out
  cases fl with
  | ret u => obtain ⟨v, σ2, H2, J, rv, q⟩ := out; exact ⟨v, H2, J.os, J.bare, J.base, J.hok, rv, q⟩
  | next => obtain ⟨σ2, H2, J, q⟩ := out; exact ⟨.non, H2, J.os, J.bare, J.base, J.hok, rfl, q⟩
  | brk => exact out.elim fun _ h => h.elim fun _ h => h.2.elim
  | cont => exact out.elim fun _ h => h.elim fun _ h => h.2.elim
end
section
variable {X : Cx} {W : WX} {k : Nat} {f : Addr} {fd : FuncData} {ps : List Str} {n : Nat} {C : CF} {x : Str} {p pos : Pos} {e : Expr} {es : List Expr} {Fr : AF}
theorem ae_callG (F : FnG X.prog X.w X.kw X.mg X.base k f fd ps (spA X.kw (e :: es).length C)) (hr : RoomG k X.A) (hm : X.mg x = some (.ref f)) (hk : PySem.W.keepIn X.kw (.ref f) = true) (hb : Binds X.kw fd ps []) (hx : Psd X W)
    (ha : AA X W (e :: es) Fr) (hl : ∀ ρ S ds S', Fr ρ S = .ok ds S' → ds.length = (e :: es).length)
    (hg : Gl X x := by rfl) (hdb : (x == ("__debug__" : Str)) = false := by decide) (he : starEach (e :: es) X.env = (false, eval e X.env) :: starEach es X.env := by rfl) (hpl : (backTo pos (starEach es X.env)).any (·.1) = false := by rfl) :
    AE X W (.Call (.Name x p) (e :: es) [] pos) (eCallD C Fr) := by
  refine ⟨fun pins s σ H Q I ⟨φ, ρ, S, rh, rl, fi⟩ => ?_⟩
  refine wpAny_Call_Name_kw (ld_glob I hg hm ?_ hdb)
  have T : tFA X.kw W Fr σ H fun vs H1 => spA X.kw (e :: es).length C vs H1 Q (WE W σ) := by
    refine ⟨φ, ρ, S, rh, rl, ?_⟩
    unfold eCallD at fi
    cases z : Fr ρ S with
    | stuck => rw [z] at fi; exact fi.elim
    | exc xx S1 => rw [z] at fi; exact fi
    | ok ds S1 =>
      rw [z] at fi
      intro φ1 H1 vs x1 rh1 rv1
      have fi : Fin X.kw W φ H σ (C ds S1) Q := fi
      exact spA_of (by rw [← rv1.length]; exact hl _ _ _ _ z) rh1 rv1 (fi.ext x1)
  refine PySem.W.callWith_K (h₀ := X.base) I.ok.mod.kin hk (thn (ha.run pos pins s σ H _ I T) ?_) he hpl
  rintro us s1 ⟨vs, H1, I1, r, q⟩
  refine ⟨I1.kIn, ?_⟩
  have hb1 := hb s1 us I1.kIn (by rw [List.append_nil, ← r.length]; exact F.cnt _ _ _ _ q)
  rw [List.append_nil] at hb1
  refine wpAny_call (codeAny_mono (F.go X.A X.stack s1 H1 ⟨us, []⟩ us vs Q (WE W σ) hr I1.env0 hb1 r q) ?_)
  rintro (e1 | fl) s2 out
  · exact hx σ pins H1 s1 e1 s2 I1 out
  · cases fl with
    | ret u => exact I1.after out
    | next => exact out.elim
    | brk => exact out.elim
    | cont => exact out.elim
end
end Al

set_option Elab.async false
set_option linter.all false
set_option maxRecDepth 100000
set_option maxHeartbeats 1000000
/-! Al: the end of a law, for defs with guards. -/
namespace Al
open PySem PySem.Spec PyProof.Rows L2
section
variable {P : Program} {w : World} {K : PySem.W.Frag} {mg mb : Str → Option Value} {k : Nat} {fa a : Addr} {fd : FuncData} {x : Str} {sp : Sp} {z : Shared} {vs : List Value} {ns : List Int}
theorem noDict (lay : z.heap.get? a = some { cls := .type "list", data := .seq vs.toArray }) {H : Hp} (hA : ∀ b, H b ≠ none → b = a) {b : Addr} {o : Obj} {es : Array DictEntry} {ep : Nat} (e : z.heap.get? b = some o) (d : o.data = .dict es ep) : H b = none := by
  by_cases q : H b = none
  · exact q
  · obtain rfl := hA b q
    rw [lay] at e
    cases e
    cases d
theorem end_run {H : Hp} (KX : K.In z.heap) (hns : z.heap.Ns mainGlobals mg) (hb : z.heap.Ns builtinsNs mb) (hbb : ∀ x : Str, x ≠ "__name__" → mb x = bootBuiltins x) (hlim : z.heap.NoLimit) (hg : z.gens = #[])
    (lay : z.heap.get? a = some { cls := .type "list", data := .seq vs.toArray }) (hr : RoomG k callerA)
    (F : ∀ base : Heap, K.In base → base.Ns mainGlobals mg → FnG P w K mg base k fa fd [x] sp) (hbind : ∀ (s : Shared) (u : Value), BindsTo s fd ⟨[u], []⟩ [(x, u)])
    (hsp : sp [.ref a] H (fun v _ => v = .bl true) fun _ _ _ => False) (hO : Only H) (hok : HOk P w H z.heap) (hA : ∀ b, H b ≠ none → b = a) (hK : H a ≠ none → K.lookup a = none) :
    codeAny (model P w) callerA (.call (.ref fa) ⟨[.ref a], []⟩) (fun r s' => r = .ok (.ret (.bool true)) ∧ OldK z.heap s'.heap ∧ s'.os = z.os ∧ AllBare s'.gens) z := by
  have below : ∀ {b : Addr} {m : Str → Option Value}, z.heap.Ns b m → (hidT z.heap H).Ns b m := by
    rintro b m ⟨o, es, ep, e, d, r⟩
    exact ⟨o, es, ep, hidT_get e (noDict lay hA e d), d, r⟩
  have inB : K.In (hidT z.heap H) := by
    intro b o e
    refine hidT_get (KX b o e) ?_
    by_cases q : H b = none
    · exact q
    · obtain rfl := hA b q
      rw [hK q] at e
      cases e
  have modB : Mod K mg (hidT z.heap H) := by
    obtain ⟨mc, h1, h2⟩ := hlim
    exact ⟨inB, below hns, ⟨mb, below hb, hbb⟩, ⟨mc, below h1, h2⟩⟩
  have e0 : Env0 P w K mg (hidT z.heap H) callerA [] z H := ⟨rfl, modB, fun b o e => of_hidT e, Nat.le_of_eq (hidT_size _ _), trivial, (fun b hb => (by cases hb)), hok, .of_eq hg⟩
  refine codeAny_mono ((F _ inB (below hns)).go callerA [] z H ⟨[.ref a], []⟩ [.ref a] [.ref a] _ _ hr e0 (hbind z (.ref a)) (.cons rfl .nil) hsp) ?_
  rintro (e | fl) s2 out
  · obtain ⟨_, _, _, _, _, _, _, _, _, _, _, _, bad⟩ := out
    exact bad.elim
  · cases fl with
    | next => exact out.elim
    | brk => exact out.elim
    | cont => exact out.elim
    | ret u =>
      obtain ⟨v, H2, os, bare, un, ok2, rel, q⟩ := out
      obtain rfl : v = .bl true := q
      obtain rfl : u = Value.bool true := rel
      refine ⟨rfl, OldK.of_keep ?_, os, bare⟩
      intro b o e
      rcases hO b with q | ⟨ob, xs, q⟩
      · exact un.keep b o e q (by intro y; cases y) (by simp)
      · have q2 := un.frzs b ob _ q
        rw [(hok b _ q).1] at e
        cases e
        exact (ok2 b _ q2).1
/-- the law's def called with a script -/
theorem end_call (KX : K.In z.heap) (hns : z.heap.Ns mainGlobals mg) (hb : z.heap.Ns builtinsNs mb) (hbb : ∀ x : Str, x ≠ "__name__" → mb x = bootBuiltins x) (hlim : z.heap.NoLimit) (hg : z.gens = #[])
    (lay : z.heap.get? a = some { cls := .type "list", data := .seq vs.toArray }) (hi : IntsAre vs ns) (hl : ns.length ≤ sizeLine) (hr : RoomG k callerA)
    (F : ∀ base : Heap, K.In base → base.Ns mainGlobals mg → FnG P w K mg base k fa fd [x] sp) (hbind : ∀ (s : Shared) (u : Value), BindsTo s fd ⟨[u], []⟩ [(x, u)])
    (hsp : ∀ H : Hp, Only H → FzL ⟨K, w⟩ H a (ns.map V.int) → sp [.ref a] H (fun v _ => v = .bl true) fun _ _ _ => False) :
    codeAny (model P w) callerA (.call (.ref fa) ⟨[.ref a], []⟩) (fun r s' => r = .ok (.ret (.bool true)) ∧ OldK z.heap s'.heap ∧ s'.os = z.os ∧ AllBare s'.gens) z := by
  have rv := vals_ints hi
  have lenV := hi.length
  cases hk : K.lookup a with
  | some o =>
    have e := KX a o hk
    rw [lay] at e
    cases e
    have O0 : Only fun _ => none := fun b => .inl rfl
    refine end_run KX hns hb hbb hlim hg lay hr F hbind (hsp _ O0 (.inr ⟨_, vs.toArray, _, hk, rfl, rfl, rfl, by rw [List.size_toArray, lenV]; exact hl, by simpa using rv⟩)) O0 ?_ (fun b y => absurd rfl y) fun y => absurd rfl y
    intro b u y
    cases y
  | none =>
    have O1 : Only fun b => if b = a then some (.frz { cls := .type "list", data := .seq vs.toArray } (.lst (ns.map V.int))) else none := by
      intro b
      by_cases q : b = a
      · exact .inr ⟨_, _, if_pos q⟩
      · exact .inl (if_neg q)
    refine end_run KX hns hb hbb hlim hg lay hr F hbind (hsp _ O1 (.inl ⟨_, if_pos rfl⟩)) O1 ?_ ?_ fun _ => hk
    · intro b u y
      by_cases q : b = a
      · subst q
        have y : some (HO.frz { cls := .type "list", data := .seq vs.toArray } (.lst (ns.map V.int))) = some u := (if_pos rfl).symm.trans y
        cases y
        exact ⟨lay, by rw [List.length_map]; exact hl, vs, _, rv, lay⟩
      · cases (if_neg q).symm.trans y
    · intro b y
      by_cases q : b = a
      · exact q
      · exact absurd (if_neg q) y
end
/-- the goal that the head leaves -/
theorem walk_G {l : PySem.W.OpenLaw} {n k : Nat} {q : Program} {loose : List Str} {XP : (Str → Option Value) → Heap → Prop} {YP : World → Heap → Prop} {d : DefRec} {K : Params → PySem.W.Frag} {C : CF} {x : Str}
    (hn : l.most = some n) (hn2 : n ≤ sizeLine) (hdf : d.params.defaults = []) (hr : RoomG k callerA)
    (hY : ∀ (w : World) (h : Heap), YP w h → (K w.params).In h)
    (F : ∀ (w : World) (mg : Str → Option Value) (fa : Addr) (h : Heap), (K w.params).In h → h.Ns mainGlobals mg → mg d.name = some (.ref fa) →
      ∃ fd : FuncData, (∀ (s : Shared) (u : Value), BindsTo s fd ⟨[u], []⟩ [(x, u)]) ∧
        ∀ base : Heap, (K w.params).In base → base.Ns mainGlobals mg → FnG l.prog w (K w.params) mg base k fa fd [x] (spA ⟨K w.params, w⟩ 1 C))
    (law : ∀ ns : List Int, ns.length ≤ n → ∃ S, C [.scl (ns.map D.int)] [] = .ok (.bl true) S) :
    PySem.W.WalkO q loose XP YP l.row.toRowW d [] (fun f vs => PySem.call f vs) := by
  refine Att.attach_call hn hdf fun w s₀ s₁ mg mb fa o pm cd doc a vs ns G Y ho hd hcd hmg hobj hints hlen hg => ?_
  have KX := hY w _ Y
  obtain ⟨fd, hb, hF⟩ := F w mg fa _ KX G.T.g hmg
  refine end_call KX G.T.g G.T.b G.T.builtins G.T.nolimit hg hobj hints (Nat.le_trans hlen hn2) hr hF hb fun H hO hS => ?_
  obtain ⟨S, e⟩ := law ns hlen
  refine ⟨rfl, [], [], [.scl (ns.map D.int)], ⟨rfl, .nil, fun i o p e => (by cases e)⟩, .cons (rv_scl hS (.of_ints ns)) .nil, ?_⟩
  rw [e]
  exact fun φ' H' v _ _ rv => rv.bl_
end Al

set_option Elab.async false
set_option linter.all false
set_option maxRecDepth 100000
set_option maxHeartbeats 1000000
/-! Al: repr of data. -/
namespace Al
open PySem PySem.Spec PyProof.Rows L2
def shownD (p : PyData) : Option (List Nat) := if p.showable && decide (p.shown.length ≤ lim) && decide (p.depth ≤ 60) then some p.shown.cps.toList else none
def reprF : FN
  | [d], S => match toP 60 S d with
    | some p => (shownD p).map fun x => (.str x, S)
    | none => none
  | _, _ => none
theorem call_reprA {X : Cx} (hg : X.A.guards = some []) (hu : X.A.units + 64 < cLine) : CallA X (.builtin "repr") reprF := by
  intro pins s σ H xs us Q I rx h
  obtain ⟨φ, S, ds, d, S', rh, rd, e, k⟩ := h
  unfold reprF at e
  split at e
  · split at e
    · rename_i d0 _ p e1
      obtain ⟨x, e2, e3⟩ := mapOpt e
      cases e3
      unfold shownD at e2
      split at e2
      · rename_i hz
        cases e2
        simp only [Bool.and_eq_true, decide_eq_true_eq] at hz
        obtain ⟨v, rfl, rv⟩ := rvs1 rd
        obtain ⟨u, rfl, ru⟩ := vals1 rx
        obtain ⟨a1, a2, a3⟩ := toP_ok rh 60 d0 v p rv e1
        obtain ⟨as, r1⟩ := Dp.reads I p v u a1 ru
        have fin : Q (.str p.shown) H := by
          have q := k φ H (.str (toS p.shown.cps.toList)) .refl rh rv_str
          rwa [toS_eta] at q
        have hsz : p.shown.length ≤ sizeLine := by rw [lim_eq]; exact hz.1.2
        have nd : p.hasDict = false := PyData.hasDict_of_canLay p a2
        cases r1 with
        | none => exact PySem.P.repr_of_none ⟨.str _, H, I.tok _, ⟨_, rfl⟩, fin⟩
        | bool b => exact PySem.P.repr_of_bool ⟨.str _, H, I.tok _, ⟨_, rfl⟩, fin⟩
        | int i t => exact PySem.P.repr_of_int (by simpa [PyData.showable] using hz.1.1) ⟨.str _, H, I.tok _, ⟨_, rfl⟩, fin⟩
        | str y t => exact PySem.P.repr_of_str ⟨.str _, H, I.tok _, ⟨_, rfl⟩, fin⟩ (by simpa [PyData.shown] using hsz)
        | list h1 h2 h3 h4 => exact repr_of_reads' (.list h1 h2 h3 h4) hz.1.1 (PyData.noDict_hsm nd) hg (by omega) (fun _ _ e => e) (fun h' u tk hk => ⟨.str _, H, I.kept hk, ⟨_, rfl⟩, fin⟩) hsz
        | tuple h1 h2 h3 h4 => exact repr_of_reads' (.tuple h1 h2 h3 h4) hz.1.1 (PyData.noDict_hsm nd) hg (by omega) (fun _ _ e => e) (fun h' u tk hk => ⟨.str _, H, I.kept hk, ⟨_, rfl⟩, fin⟩) hsz
        | dict h1 h2 h3 h4 h5 => cases nd
      · cases e2
    · cases e
  · cases e
end Al

set_option Elab.async false
set_option linter.all false
set_option maxRecDepth 100000
set_option maxHeartbeats 4000000
/-! Al: sets of texts: set(xs), their size, sorted. -/
namespace Al
open PySem PySem.Spec PyProof.Rows L2
/-! ### a set of texts -/
def sKey (e : Int × Value) : Str := match e.2 with
  | .str x _ => x
  | _ => Str.empty
def sGood (w : World) (e : Int × Value) : Prop := ∃ x tk, e.2 = Value.str x tk ∧ e.1 = hashStr w x
/-- the texts at a: those of S, n of them; its table can be walked -/
def SetS (w : World) (h : Heap) (a : Addr) (S : Str → Bool) (n : Nat) : Prop :=
  ∃ o es ep t, h.get? a = some o ∧ o.ExactSet ∧ o.data = .set es ep t ∧ (∀ e ∈ es.toList, sGood w e) ∧ (es.toList.map sKey).Nodup ∧ (∀ k, S k = true ↔ k ∈ es.toList.map sKey) ∧
    es.size < scanBound ∧ t.fits es.size = true ∧ es.size = n ∧ Ris t.place.toList ∧ (w.params.followText "set-order" = true ∨ t.led = true)
section
variable {P : Program} {w : World} {h h' : Heap} {a : Addr} {S : Str → Bool} {n : Nat}
theorem SetS.at (R : SetS w h a S n) (k : ∀ o, h.get? a = some o → h'.get? a = some o) : SetS w h' a S n := let ⟨o, es, ep, t, ho, r⟩ := R; ⟨o, es, ep, t, k o ho, r⟩
theorem SetS.congr {S' : Str → Bool} (R : SetS w h a S n) (e : ∀ k, S' k = S k) : SetS w h a S' n := by rw [show S' = S from funext e]; exact R
theorem s_elems {l : List (Int × Value)} (g : ∀ e ∈ l, sGood w e) : ElemsOf (PySem.strKind P w) l := fun e he => by
  obtain ⟨k, tk, h1, h2⟩ := g e he
  exact ⟨⟨k, by rw [h1]; exact PySem.strKind_is P w k tk, h2⟩, by rw [h1] <;> rfl⟩
theorem s_is {e : Int × Value} (g : sGood w e) (k : Str) : (PySem.strKind P w).is k e.2 = true ↔ sKey e = k := by
  obtain ⟨k0, tk, h1, _⟩ := g
  have z := KeyKind.is_eq_decide (PySem.strKind_is P w k0 tk) k
  unfold sKey
  rw [h1, z, decide_eq_true_eq]
  exact eq_comm
theorem s_mem {l : List (Int × Value)} (g : ∀ e ∈ l, sGood w e) (k : Str) : k ∈ l.map sKey ↔ ∃ e ∈ l, (PySem.strKind P w).is k e.2 = true := by
  rw [List.mem_map]
  exact ⟨fun ⟨e, he, q⟩ => ⟨e, he, (s_is (g e he) k).2 q⟩, fun ⟨e, he, q⟩ => ⟨e, he, (s_is (g e he) k).1 q⟩⟩
theorem SetS.setOf (R : SetS w h a S n) : h.SetOf (PySem.strKind P w) a S n := by
  obtain ⟨o, es, ep, t, ho, hx, hd, g, nd, hm, hb, hf, hn, _⟩ := R
  exact ⟨o, es, ep, t, ho, hx, hd, s_elems g, fun k => (hm k).trans (s_mem g k), hb, hf, hn⟩
theorem SetS.fresh {xs : List Str} (ho : h.get? a = some { cls := .type "set", dict := none, data := .set #[] 0 (.fresh 0 0 (!w.params.followText "set-order")) }) : SetS w h a (fun j => decide (j ∈ xs.take 0)) 0 := by
  refine ⟨_, #[], 0, _, ho, ⟨rfl, rfl, rfl⟩, rfl, fun e he => ?_, by simp, fun k => by simp, by decide, by rfl, rfl, List.Pairwise.nil, ?_⟩
  · simp at he
  · show _ ∨ (!w.params.followText "set-order") = true
    cases w.params.followText "set-order"
    · exact .inr rfl
    · exact .inl rfl
end
section
variable {P : Program} {w : World} {A : Around} {E : Value → Shared → Prop} {s : Shared} {a : Addr} {S : Str → Bool} {n : Nat}
theorem s_tail {g : Bool → Sem Unit} (hg : ∀ (b : Bool) (s₁ : Shared) (Q' : Unit → Shared → Prop), Q' () s₁ → wpAny (model P w) A (g b) Q' E s₁)
    {o : Obj} {es : Array (Int × Value)} {ep : Nat} {t : SetTable} (ho : s.heap.get? a = some o) (hex : o.ExactSet) (hd : o.data = .set es ep t)
    {es1 : Array (Int × Value)} {t2 : SetTable} {S' : Str → Bool} (g1 : ∀ e ∈ es1.toList, sGood w e) (nd1 : (es1.toList.map sKey).Nodup) (m1 : ∀ k, S' k = true ↔ k ∈ es1.toList.map sKey)
    (hb1 : es1.size < scanBound) (hf2 : t2.fits es1.size = true) (hr : Ris t2.place.toList) (hl : w.params.followText "set-order" = true ∨ t2.led = true) {dum : Bool} {R : Option Bool → Shared → Prop}
    (hR : ∀ h', Heap.SameBut a s.heap h' → SetS w h' a S' es1.size → R (some true) { s with heap := h' }) :
    wpAny (model P w) A (do
        storeSet a es1 t2
        if (!dum && t2.tooFull) = true then do
            g (relayAll t2 es1 (SetTable.grown es1.size)).2.2
            storeSet a (relayAll t2 es1 (SetTable.grown es1.size)).1 (relayAll t2 es1 (SetTable.grown es1.size)).2.1
            pure (some true)
          else pure (some true)) R E s := by
  refine wpAny_bind (wpAny_storeSet_of ho hd ?_ (fits_of_scanBound hb1))
  have k1 := store_at (es' := es1) (t' := t2) ho hd
  have b1 := Heap.SameBut.update s.heap a (Obj.putSet es1 t2)
  split
  · obtain ⟨Z, eZ⟩ : ∃ Z, Z = relayAll t2 es1 (SetTable.grown es1.size) := ⟨_, rfl⟩
    have pm := relayAll_perm t2 es1 (SetTable.grown es1.size)
    have f3 := relayAll_fits t2 es1 (SetTable.grown es1.size)
    have r3 := relayAll_ris t2 es1 (SetTable.grown es1.size)
    have l3 := relayAll_led t2 es1 (SetTable.grown es1.size)
    rw [← eZ] at pm f3 r3 l3 ⊢
    clear eZ
    obtain ⟨es2, t3, gv⟩ := Z
    dsimp only at pm f3 r3 l3 ⊢
    have sz : es2.size = es1.size := by rw [← Array.length_toList, pm.length_eq, Array.length_toList]
    have b2 : es2.size < scanBound := sz ▸ hb1
    refine wpAny_bind (hg _ _ _ (wpAny_bind (wpAny_storeSet_of k1 rfl ?_ (fits_of_scanBound b2))))
    have k2 := store_at (es' := es2) (t' := t3) k1 rfl
    exact wpAny_pure (hR _ (b1.trans (Heap.SameBut.update _ a _)) ⟨_, es2, _, t3, k2, hex, rfl, fun e he => g1 e (pm.mem_iff.mp he), (pm.map sKey).nodup_iff.mpr nd1, fun k => (m1 k).trans (pm.map sKey).mem_iff.symm, b2, f3, sz, r3,
      hl.imp id fun z => l3.trans z⟩)
  · exact wpAny_pure (hR _ b1 ⟨_, es1, _, t2, k1, hex, rfl, g1, nd1, m1, hb1, hf2, rfl, hr, hl⟩)
/-- a text is added -/
theorem s_add {k : Str} {tk : Tok} {Q : Bool → Shared → Prop} (R : SetS w s.heap a S n) (room : n + 1 < scanBound)
    (hQ : ∀ h', Heap.SameBut a s.heap h' → SetS w h' a (fun j => S j || decide (j = k)) (if S k = true then n else n + 1) → Q (!S k) { s with heap := h' }) :
    wpAny (model P w) A (setAddHashed a (.str k tk) ((PySem.strKind P w).hash k)) Q E s := by
  obtain ⟨o, es, ep, t, ho, hex, hd, g, nd, hm, hb, hf, hn, hr, hl⟩ := R
  have sc : (Value.str k tk).scannable = true := rfl
  have el : ElemsOf (PySem.strKind P w) es.toList := s_elems g
  unfold setAddHashed setAddHashedIn
  refine wpAny_holding (wpAny_bind (wpAny_setState_of ho hd hf ?_))
  dsimp only
  rw [byScan_of sc hb el]
  simp only [↓reduceIte]
  unfold setAddByScan
  refine wpAny_bind (wpAny_bind (wpAny_rule (wpAny_bind (wpAny_setScan_of (PySem.strKind_is P w k tk) ho hd hf el ?_))))
  cases hfi : List.findIdx? (fun e => (PySem.strKind P w).is k e.2) es.toList with
  | some j =>
    dsimp only
    obtain ⟨hj, pj, _⟩ := List.findIdx?_eq_some_iff_getElem.mp hfi
    have yes : S k = true := (hm k).2 ((s_mem (P := P) g k).2 ⟨es.toList[j], List.getElem_mem hj, pj⟩)
    refine wpAny_pure (wpAny_pure ?_)
    have q := hQ s.heap (Heap.SameBut.refl a s.heap) ⟨o, es, ep, t, ho, hex, hd, g, nd, fun i => by
      rw [Bool.or_eq_true, decide_eq_true_eq, ← hm i]
      exact ⟨fun z => z.elim id (fun e => e ▸ yes), .inl⟩, hb, hf, by rw [if_pos yes]; exact hn, hr, hl⟩
    rwa [yes] at q
  | none =>
    dsimp only
    have out : k ∉ es.toList.map sKey := fun z => by
      obtain ⟨e, he, q⟩ := (s_mem (P := P) g k).1 z
      rw [List.findIdx?_eq_none_iff.mp hfi e he] at q
      cases q
    have no : S k = false := Bool.eq_false_iff.mpr fun q => out ((hm k).1 q)
    obtain ⟨Z, eZ⟩ : ∃ Z, Z = layNew t es ((PySem.strKind P w).hash k) (.str k tk) := ⟨_, rfl⟩
    have pm := layNew_perm t es ((PySem.strKind P w).hash k) (.str k tk)
    have f1 := layNew_fits t es ((PySem.strKind P w).hash k) (.str k tk)
    have r1 := layNew_ris t es ((PySem.strKind P w).hash k) (.str k tk) hr
    have l1 := layNew_led t es ((PySem.strKind P w).hash k) (.str k tk)
    rw [← eZ] at pm f1 r1 l1 ⊢
    clear eZ
    obtain ⟨es1, t1, dum, gv⟩ := Z
    dsimp only at pm f1 r1 l1 ⊢
    rw [Array.toList_push] at pm
    have pc : es1.toList.Perm (((PySem.strKind P w).hash k, Value.str k tk) :: es.toList) := pm.trans (List.perm_append_singleton _ _)
    have pk : (es1.toList.map sKey).Perm (k :: es.toList.map sKey) := pc.map sKey
    have g1 : ∀ e ∈ es1.toList, sGood w e := fun e he => by
      rcases List.mem_cons.mp (pc.mem_iff.mp he) with z | z
      · rw [z]; exact ⟨k, tk, rfl, rfl⟩
      · exact g e z
    have nd1 : (es1.toList.map sKey).Nodup := pk.nodup_iff.mpr (List.nodup_cons.mpr ⟨out, nd⟩)
    have m1 : ∀ i, (S i || decide (i = k)) = true ↔ i ∈ es1.toList.map sKey := fun i => by
      rw [Bool.or_eq_true, decide_eq_true_eq, hm i, pk.mem_iff, List.mem_cons]
      exact Or.comm
    have sz : es1.size = n + 1 := by rw [← Array.length_toList, pc.length_eq, List.length_cons, Array.length_toList, hn]
    have b1 : es1.size < scanBound := by rw [sz]; exact room
    have led : w.params.followText "set-order" = true ∨ t1.led = true := hl.imp id fun z => l1.trans z
    have fin : ∀ h', Heap.SameBut a s.heap h' → SetS w h' a (fun j => S j || decide (j = k)) es1.size → Q true { s with heap := h' } := fun h' sb r => by
      have q := hQ h' sb
      rw [no] at q
      rw [sz] at r
      exact q r
    have gw : ∀ (b : Bool) (s₁ : Shared) (Q' : Unit → Shared → Prop), Q' () s₁ → wpAny (model P w) A (match b with | true => rule "set.scan.the-table-gave-way" | false => pure ()) Q' E s₁ :=
      fun b s₁ Q' q => by cases b <;> first | exact wpAny_pure q | exact wpAny_rule q
    refine wpAny_bind (gw _ _ _ ?_)
    split
    · refine wpAny_bind ?_
      rw [hashByValue_scannable 8 sc]
      refine wpAny_pure ?_
      refine s_tail ?_ ho hex hd g1 nd1 m1 b1 ?_ ?_ ?_ ?_
      · intro b s₁ Q' q; cases b <;> first | exact wpAny_pure q | exact wpAny_rule q
      · first | (split <;> first | exact f1 | exact SetTable.fits_plain_off f1) | exact f1
      · first | (split <;> exact r1) | exact r1
      · first | (split <;> exact led) | exact led
      · intro h' sb r; dsimp only; exact wpAny_pure (fin h' sb r)
    · refine wpAny_bind (wpAny_pure ?_)
      simp only [↓reduceIte]
      refine s_tail ?_ ho hex hd g1 nd1 m1 b1 f1 r1 led ?_
      · intro b s₁ Q' q; cases b <;> first | exact wpAny_pure q | exact wpAny_rule q
      · intro h' sb r; dsimp only; exact wpAny_pure (fin h' sb r)
end
end Al

set_option Elab.async false
set_option linter.all false
set_option maxRecDepth 100000
set_option maxHeartbeats 4000000
/-! Al: set(xs) of a list or tuple of texts. -/
namespace Al
open PySem PySem.Spec PyProof.Rows L2
abbrev set0 (w : World) : Obj := { cls := .type "set", dict := none, data := .set #[] 0 (.fresh 0 0 (!w.params.followText "set-order")) }
section
variable {P : Program} {w : World} {A : Around} {E : Value → Shared → Prop} {s : Shared}
theorem s_loop {J : Addr} {fp wr : List Addr} {G : Array GenState → Array GenState → Prop} {n : Nat} {Pv : Nat → Value → Prop} {St : Nat → Shared → Prop} {R : Result → Shared → Prop}
    (W : WalksS P w A.in1 J fp wr G n Pv St) (b0 : Addr) (out : b0 ∉ fp) (xs : List Str) (hn : n = xs.length) (most : xs.length + 1 < scanBound) (vals : ∀ i v, Pv i v → ∃ k t, xs[i]? = some k ∧ v = .str k t) :
    ∀ (left i : Nat) (z : Shared), n - i = left → i ≤ n → St i z → (∃ c, c ≤ i ∧ SetS w z.heap b0 (fun j => decide (j ∈ xs.take i)) c) →
      (∀ z' c, Moved (b0 :: wr) G z z' → c ≤ n → SetS w z'.heap b0 (fun j => decide (j ∈ xs)) c → R (.ok (.ret .none)) z') →
      codeAny (model P w) A (.builtin "set.update.loop" ⟨[.ref b0, .ref J], []⟩) R z := by
  have nw : b0 ∉ wr := fun h => out (W.sub _ h)
  have wide : ∀ b ∈ wr, b ∈ b0 :: wr := fun b h => .tail _ h
  intro left
  induction left with
  | zero =>
    rintro i z el hi st ⟨c, hc, set⟩ fin
    obtain rfl : i = n := by omega
    refine codeAny_builtin F.entry_set_update_loop ?_
    rw [Around.under_plainId F.plain_set_update_loop _]
    refine wpAny_bind (W.done z _ _ st fun z1 mv => ?_)
    rw [List.take_of_length_le (by omega)] at set
    exact wpAny_pure (fin z1 c (mv.mono wide) hc (set.at fun o e => mv.heap b0 o nw e))
  | succ left ih =>
    rintro i z el hi st ⟨c, hc, set⟩ fin
    have lt : i < n := by omega
    refine codeAny_builtin F.entry_set_update_loop ?_
    rw [Around.under_plainId F.plain_set_update_loop _]
    refine wpAny_bind (W.item i z _ _ lt st fun v z1 pv st1 mv => ?_)
    obtain ⟨x, t, ex, rfl⟩ := vals i v pv
    have set1 : SetS w z1.heap b0 (fun j => decide (j ∈ xs.take i)) c := set.at fun o e => mv.heap b0 o nw e
    refine wpAny_bind (wpAny_holding ?_)
    unfold setAdd
    refine wpAny_holding (wpAny_bind ((PySem.strKind P w).pyHash (k := x) (PySem.strKind_is _ _ _ _) ?_))
    refine s_add (s := { z1 with toks := z1.toks + 1 }) set1 (by omega) fun h2 same set2 => ?_
    have set3 : SetS w h2 b0 (fun j => decide (j ∈ xs.take (i + 1))) (if decide (x ∈ xs.take i) = true then c else c + 1) := set2.congr fun j => by
      rw [List.take_add_one, ex]
      simp [List.mem_append]
    have hc3 : (if decide (x ∈ xs.take i) = true then c else c + 1) ≤ i + 1 := by split <;> omega
    have keep : ∀ b o, b ≠ b0 → z1.heap.get? b = some o → h2.get? b = some o := fun b o nb e => (same.2 b nb).trans e
    refine wpAny_pure ⟨plainId_quiet F.plain_set_update_loop _, ih (i + 1) _ (by omega) lt (W.frame _ z1 _ _ st1 (Nat.le_succ _) fun b hb o e => keep b o (fun q => out (q ▸ hb)) e) ⟨_, hc3, set3⟩ fun z3 c3 mv3 le3 fs => ?_⟩
    exact fin z3 c3 (Moved.trans W.gtrans ((mv.mono wide).then_heap (Nat.le_succ _) fun b o hb e => keep b o (fun q => hb (q ▸ .head _)) e) mv3) le3 fs

def KeepAll (h h' : Heap) : Prop := ∀ b o, h.get? b = some o → h'.get? b = some o
/-- set(l) of a list of texts -/
theorem s_list {l : Addr} {items : Array Value} (xs : List Str) {Q : Value → Shared → Prop} (calm : A.handled = none) (hl : s.heap.IsList l items) (cnt : items.size = xs.length)
    (vals : ∀ (i : Nat) (v : Value), items[i]? = some v → ∃ k t, xs[i]? = some k ∧ v = .str k t) (most : xs.length + 1 < scanBound)
    (fin : ∀ (h2 : Heap) (tk c : Nat), SetS w h2 s.heap.objs.size (fun j => decide (j ∈ xs)) c → c ≤ xs.length → KeepAll s.heap h2 → Q (.ref s.heap.objs.size) { s with heap := h2, toks := tk }) :
    wpAny (model P w) A (call (.type "set") [.ref l]) Q E s := by
  obtain ⟨c, tl, hmro⟩ := F.called_set.mro
  have hmade := F.called_set.made
  have hsub := F.called_set.sub
  refine wpAny_call (codeAny_of_tree ?_)
  refine wpAny_pure ⟨Code.quiet_builtin _ (by decide +kernel), codeAny_builtin F.entry_type_call ?_⟩
  rw [Around.under_plain (weight_type_call_type "set" [.ref l] []) rfl]
  have h1 := F.called_set.notType
  have h2 := F.called_set.canCreate
  have hct := F.typeCall_set_1 (.ref l)
  repeat' (first | assumption | wp_step)
  refine codeAny_mono (L2.code_set_led1 (w := w) (.ref l) (E := E) (Q₁ := fun v z => v = .ref s.heap.objs.size ∧ z = { s with heap := s.heap.push (set0 w) }) ⟨rfl, rfl⟩) ?_
  rintro (er | fl) z1 got
  · exact got
  cases fl with
  | ret v =>
    obtain ⟨rfl, rfl⟩ := got
    have at0 : (s.heap.push (set0 w)).get? s.heap.objs.size = some (set0 w) := Heap.get?_push_size _ rfl
    have hT : Shared.TypeIs { s with heap := s.heap.push (set0 w) } (.ref s.heap.objs.size) "set" := ⟨_, at0, rfl⟩
    have hli := F.called_set.init.lookup
    have hbi := F.called_set.init.bind (.ref s.heap.objs.size)
    repeat' (first | assumption | wp_step)
    refine codeAny_mono (codeAny_call_builtin (R := wants (fun r z => r = .none ∧ ∃ h2 tk c, z = { s with heap := h2, toks := tk } ∧ SetS w h2 s.heap.objs.size (fun j => decide (j ∈ xs)) c ∧ c ≤ xs.length ∧ KeepAll s.heap h2) E) F.called_set.init.plain F.entry_set_init (check_set_init_1 hT ?_)) ?_
    · obtain ⟨⟨oc, od, data, sl⟩, ol, hc, nl, hd⟩ := hl
      simp only at hc hd
      subst hc hd
      have ol1 : (s.heap.push (set0 w)).get? l = some ⟨.type "list", od, .seq items nl, sl⟩ := Heap.get?_push_of_some _ ol
      have hsls := F.sub_list_set
      have hslf := F.sub_list_frozenset
      have hne : (Value.type "list" == Value.type "dict") = false := by decide
      have isL : (s.heap.push (set0 w)).IsList l items := ⟨_, ol1, rfl, nl, rfl⟩
      unfold Builtin.«set.__init__» noKeywords Builtin.Frozenset.updateFrom
      generalize hold : pyIter = it
      wp_walk
      subst hold
      refine wpAny_pyIter_list isL (wpAny_bind (wpAny_runValue ?_))
      have lS : l < s.heap.objs.size := Heap.lt_size ol
      have sz : (s.heap.push (set0 w)).objs.size = s.heap.objs.size + 1 := Heap.size_push ..
      have c3 : A.in1.in1.in1.handled = none := calm
      refine s_loop ((Walks.list c3 _ l (by rw [sz]; exact Nat.ne_of_lt (Nat.lt_succ_of_lt lS)) items).toS) s.heap.objs.size ?_ xs cnt most vals (items.size - 0) 0 _ rfl (Nat.zero_le _) ⟨⟨_, Heap.get?_push_size _ rfl, rfl, rfl⟩, isL.push _⟩ ⟨0, Nat.le_refl 0, SetS.fresh (Heap.get?_push_of_some _ at0)⟩ ?_
      · rw [sz]
        intro q
        rcases List.mem_cons.mp q with q | q
        · exact absurd q (Nat.ne_of_lt (Nat.lt_succ_self _))
        · exact absurd (List.mem_singleton.mp q) (Nat.ne_of_gt lS)
      · rintro ⟨h2, g2, d2, tk2, os2⟩ c2 mv le set
        obtain rfl : g2 = s.gens := mv.gens
        obtain rfl : d2 = s.drawn := mv.drawn
        obtain rfl : os2 = s.os := mv.os
        refine wpAny_pure (wpAny_pure ⟨rfl, h2, tk2, c2, rfl, set, by rw [← cnt]; exact le, fun b o e => ?_⟩)
        have lb : b < s.heap.objs.size := Heap.lt_size e
        refine mv.heap b o (fun q => ?_) (Heap.get?_push_of_some _ (Heap.get?_push_of_some _ e))
        rcases List.mem_cons.mp q with q | q
        · exact absurd q (Nat.ne_of_lt lb)
        · rw [sz] at q
          exact absurd (List.mem_singleton.mp q) (Nat.ne_of_lt (Nat.lt_succ_of_lt lb))
    · rintro (er | fl) z2 got2
      · exact got2
      cases fl with
      | ret v =>
        obtain ⟨rfl, h2, tk, c2, rfl, set, le, keep⟩ := got2
        repeat' (first | assumption | wp_step)
        exact fin _ _ _ set le keep
      | _ => exact got2.elim
  | _ => exact got.elim
end
end Al

set_option Elab.async false
set_option linter.all false
set_option maxRecDepth 100000
set_option maxHeartbeats 4000000
/-! Al: sorted(texts), sorted(set(texts)). -/
namespace Al
open PySem PySem.Spec PyProof.Rows L2
/-! ### plain sorting of texts -/
def leT (a b : List Nat) : Bool := !ltCps b a
def insT (x : List Nat) : List (List Nat) → List (List Nat)
  | [] => [x]
  | y :: r => if leT x y then x :: y :: r else y :: insT x r
def sortT : List (List Nat) → List (List Nat)
  | [] => []
  | x :: r => insT x (sortT r)
def dedT : List (List Nat) → List (List Nat)
  | [] => []
  | x :: r => if r.contains x then dedT r else x :: dedT r
theorem leT_iff (a b : List Nat) : leT a b = true ↔ a ≤ b := by
  unfold leT
  rw [ltCps_eq, Bool.not_eq_true', decide_eq_false_iff_not, List.not_lt]
theorem leT_total (a b : List Nat) : leT a b = true ∨ leT b a = true := by
  rw [leT_iff, leT_iff]; exact List.le_total a b
theorem leT_trans {a b c : List Nat} (h : leT a b = true) (i : leT b c = true) : leT a c = true := by
  rw [leT_iff] at *; exact List.le_trans h i
theorem leT_anti {a b : List Nat} (h : leT a b = true) (i : leT b a = true) : a = b := by
  rw [leT_iff] at *; exact List.le_antisymm h i
theorem insT_perm (x : List Nat) : ∀ l, (insT x l).Perm (x :: l)
  | [] => .refl _
  | y :: r => by
    unfold insT
    split
    · exact .refl _
    · exact ((insT_perm x r).cons y).trans (.swap x y r)
theorem sortT_perm : ∀ l, (sortT l).Perm l
  | [] => .refl _
  | x :: r => (insT_perm x _).trans ((sortT_perm r).cons x)
theorem insT_sorted (x : List Nat) : ∀ l : List (List Nat), l.Pairwise (fun a b => leT a b = true) → (insT x l).Pairwise (fun a b => leT a b = true)
  | [], _ => by simp [insT]
  | y :: r, h => by
    obtain ⟨h1, h2⟩ := List.pairwise_cons.mp h
    unfold insT
    split
    · rename_i q
      refine List.pairwise_cons.mpr ⟨fun z hz => ?_, h⟩
      rcases List.mem_cons.mp hz with e | e
      · rw [e]; exact q
      · exact leT_trans q (h1 z e)
    · rename_i q
      have q' : leT y x = true := (leT_total x y).resolve_left q
      refine List.pairwise_cons.mpr ⟨fun z hz => ?_, insT_sorted x r h2⟩
      rcases List.mem_cons.mp ((insT_perm x r).mem_iff.mp hz) with e | e
      · rw [e]; exact q'
      · exact h1 z e
theorem sortT_sorted : ∀ l, (sortT l).Pairwise (fun a b => leT a b = true)
  | [] => .nil
  | x :: r => insT_sorted x _ (sortT_sorted r)
theorem sortT_unique {l m : List (List Nat)} (p : m.Perm l) (s : m.Pairwise (fun a b => leT a b = true)) : m = sortT l :=
  List.Perm.eq_of_pairwise (le := fun a b => leT a b = true) (fun a b _ _ h i => leT_anti h i) s (sortT_sorted l) (p.trans (sortT_perm l).symm)
theorem dedT_mem (k : List Nat) : ∀ l : List (List Nat), k ∈ dedT l ↔ k ∈ l
  | [] => .rfl
  | x :: r => by
    have ih := dedT_mem k r
    unfold dedT
    split
    · rename_i q
      rw [ih, List.mem_cons]
      refine ⟨.inr, fun h => h.elim (fun e => ?_) id⟩
      rw [e]; simpa using q
    · rw [List.mem_cons, List.mem_cons, ih]
theorem dedT_nodup : ∀ l : List (List Nat), (dedT l).Nodup
  | [] => .nil
  | x :: r => by
    have ih := dedT_nodup r
    unfold dedT
    split
    · exact ih
    · rename_i q
      refine List.nodup_cons.mpr ⟨fun h => q ?_, ih⟩
      simpa using (dedT_mem x r).1 h
theorem rising_iff : ∀ (l : List Str) (p : Str), risingS p l = true → (∀ x ∈ l, leT p.cps.toList x.cps.toList = true) ∧ l.Pairwise (fun a b => leT a.cps.toList b.cps.toList = true)
  | [], p, _ => ⟨fun _ h => (nomatch h), List.Pairwise.nil⟩
  | x :: r, p, h => by
    have h : (!ltCps x.cps.toList p.cps.toList && risingS x r) = true := h
    rw [Bool.and_eq_true] at h
    obtain ⟨a, b⟩ := rising_iff r x h.2
    have hp : leT p.cps.toList x.cps.toList = true := h.1
    refine ⟨fun y hy => ?_, List.pairwise_cons.mpr ⟨a, b⟩⟩
    rcases List.mem_cons.mp hy with e | e
    · rw [e]; exact hp
    · exact leT_trans hp (a y e)
theorem sorted_pw {l : List Str} (h : sortedS l = true) : (l.map fun x => x.cps.toList).Pairwise (fun a b => leT a b = true) := by
  rw [List.pairwise_map]
  cases l with
  | nil => exact .nil
  | cons x r =>
    obtain ⟨a, b⟩ := rising_iff r x h
    exact List.pairwise_cons.mpr ⟨a, b⟩
theorem map_eta (l : List Str) : (l.map fun x => x.cps.toList).map toS = l := by
  rw [List.map_map]
  conv => rhs; rw [← List.map_id l]
  exact List.map_congr_left fun x _ => toS_eta x
theorem eta_map (l : List (List Nat)) : (l.map toS).map (fun x => x.cps.toList) = l := by
  rw [List.map_map]
  conv => rhs; rw [← List.map_id l]
  exact List.map_congr_left fun x _ => by simp [toS]
theorem sortT_is {l : List (List Nat)} {ys : List Str} (p : ys.Perm (l.map toS)) (s : sortedS ys = true) : ys = (sortT l).map toS := by
  have q : (ys.map fun x => x.cps.toList) = sortT l := sortT_unique (by have := p.map (fun x => x.cps.toList); rwa [eta_map] at this) (sorted_pw s)
  rw [← q, map_eta]
/-! ### sorted(list of texts) -/
def strsOf (d : D) (S : Store) : Option (List (List Nat)) := match d with
  | .ref n => (lstAt S n).bind (mapO asStr)
  | _ => none
def sortedF : FN
  | [d], S => (strsOf d S).bind fun l => if l.length < lim then some (.ref S.length, S ++ [.lst ((sortT l).map .str)]) else none
  | _, _ => none
section
variable {X : Cx} {W : WX}
theorem strsOf_ok {K : KW} {φ : List Addr} {H : Hp} {S : Store} {d : D} {v : V} {l : List (List Nat)} (rh : RH K φ H S) (r : RV K φ H d v) (e : strsOf d S = some l) : ∃ p, v = .ref p ∧ SqL K H p ((l.map toS).map V.str) := by
  unfold strsOf at e
  split at e
  · obtain ⟨ds, e1, e2⟩ := bindO e
    obtain ⟨p, vs, rfl, sq, rs⟩ := lstAt_ok rh e1 r
    rw [asStr_all rs e2] at sq
    exact ⟨p, rfl, sq⟩
  · cases e
theorem call_sortedA : CallA X (.builtin "sorted") sortedF := by
  intro pins s σ H xs us Q I r h
  obtain ⟨φ, S, ds, d, S', rh, rv, e, k⟩ := h
  unfold sortedF at e
  split at e
  · obtain ⟨l, e1, e2⟩ := bindO e
    split at e2
    · rename_i small
      cases e2
      obtain ⟨v, rfl, rz⟩ := rvs1 rv
      obtain ⟨p, rfl, sq⟩ := strsOf_ok rh rz e1
      obtain ⟨its, rvs, pl, _⟩ := I.list sq
      rw [Vals.ref1 r]
      have cnt := rvs.length
      rw [List.length_map, List.length_map] at cnt
      refine sorted_strsAny pl.isList rvs.strs (by rw [← cnt, lim_eq]; omega) fun out ys h1 h2 h3 => ?_
      obtain ⟨ep, lay⟩ := sortedAll_at s.heap its out
      obtain rfl := sortT_is h2 h3
      have len : (((sortT l).map toS).map V.str).length ≤ sizeLine := by rw [List.length_map, h2.length_eq, List.length_map, lim_eq]; omega
      exact ⟨.ref _, upd H (s.heap.objs.size + 1) (.lst (((sortT l).map toS).map V.str)), I.laid (t' := s.toks) (fun _ _ => sortedAll_old) (Nat.le_succ _) ⟨len, out.toList, ep, vals_of_strs h1, lay⟩, rfl,
        new_list rh (.of_strs _) k _ (I.hok.fresh (Nat.le_succ _))⟩
    · cases e2
  · cases e
/-! ### sorted(set(list of texts)) -/
abbrev SetH (w : World) (a : Addr) (xs : List Str) (n : Nat) : HO := .ext fun h => SetS w h a (fun j => decide (j ∈ xs)) n
theorem setH_get {pins : List (Addr × Obj)} {σ : St} {H : Hp} {s : Shared} {a : Addr} {xs : List Str} {n : Nat} (I : Inv X pins σ H s) (h : H a = some (SetH X.w a xs n)) : SetS X.w s.heap a (fun j => decide (j ∈ xs)) n := (I.hok a _ h).1
theorem cr_setS (hc : X.calm = true) : CallR X (.type "set") (fun vs H Q => ∃ (p : Addr) (xs : List Str), vs = [.ref p] ∧ SqL X.kw H p (xs.map V.str) ∧ xs.length < 4000 ∧ ∀ a n, H a = none → n ≤ xs.length → Q (.ref a) (upd H a (SetH X.w a xs n))) := by
  intro pins s σ H vs us Q I r h
  obtain ⟨p, xs, rfl, sq, few, q⟩ := h
  obtain ⟨its, rvs, pl, _⟩ := I.list sq
  rw [Vals.ref1 r]
  have cnt := rvs.length
  rw [List.length_map] at cnt
  refine s_list xs (I.ok.hd hc) pl.isList (by rw [List.size_toArray]; exact cnt.symm) (fun i v e => ?_) (by unfold scanBound; omega) fun h2 tk c set le keep => ?_
  · have e2 : its[i]? = some v := by simpa using e
    have hi : i < xs.length := by rw [cnt]; exact (List.getElem?_eq_some_iff.mp e2).1
    obtain ⟨u, e3, rel⟩ := rvs.get (i := i) (x := .str xs[i]) (by rw [List.getElem?_map, List.getElem?_eq_getElem hi]; rfl)
    rw [e2] at e3
    cases e3
    obtain ⟨t, rfl⟩ := rel
    exact ⟨xs[i], t, List.getElem?_eq_getElem hi, rfl⟩
  · have fresh : H s.heap.objs.size = none := I.hok.fresh (Nat.le_refl _)
    refine ⟨.ref _, upd H s.heap.objs.size (SetH X.w s.heap.objs.size xs c), I.laid keep (Nat.le_refl _) ⟨set, ?_, fun h1 h2 a b => a.at b⟩, rfl, q _ c fresh le⟩
    obtain ⟨o, _, _, _, e, _⟩ := set
    exact ⟨o, e⟩
theorem cr_sortS (hc : X.calm = true) : CallR X (.builtin "sorted") (fun vs H Q => ∃ (a : Addr) (xs : List (List Nat)) (n : Nat), vs = [.ref a] ∧ H a = some (SetH X.w a (xs.map toS) n) ∧ n < 4000 ∧ ∀ p, H p = none → Q (.ref p) (upd H p (.lst (((sortT (dedT xs)).map toS).map V.str)))) := by
  intro pins s σ H vs us Q I r h
  obtain ⟨a, xs, n, rfl, ha, few, q⟩ := h
  have R := setH_get I ha
  rw [Vals.ref1 r]
  obtain ⟨o, es, ep, t, ho, hex, hd, g, nd, hm, hb, hf, hn, hr, hl⟩ := R
  refine Calls.call_function_entry kind_sorted plain_sorted entry_sorted (args_sorted1 _) ?_
  unfold Builtin.«sorted»
  refine wpAny_bind (m := checkCount "sorted" 1 1 _) (wpAny_pure ?_)
  refine wpAny_bind (collect_set (A := X.A.in1) (I.ok.hd hc) ⟨o, ho, hex.1, hd⟩ hf hb hr hl fun z1 out keep hz g1 o1 pm => ?_)
  have cnt : out.length = n := by rw [pm.length_eq, List.length_map, Array.length_toList]; exact hn
  have ssx : StrsAre out (out.map strOf) := strsAre_map out fun v hv => by
    obtain ⟨e, he, rfl⟩ := List.mem_map.mp (pm.mem_iff.mp hv)
    obtain ⟨k, tk, h1, _⟩ := g e he
    exact ⟨k, tk, h1⟩
  have pk : (out.map strOf).Perm (es.toList.map sKey) := by
    have z := pm.map strOf
    rw [List.map_map] at z
    refine z.trans (.of_eq (List.map_congr_left fun e he => ?_))
    obtain ⟨k, tk, h1, _⟩ := g e he
    show strOf e.2 = sKey e
    unfold sKey
    rw [h1] <;> rfl
  have pd : (es.toList.map sKey).Perm ((dedT xs).map toS) := by
    refine (List.perm_ext_iff_of_nodup nd ?_).2 fun k => ?_
    · exact List.Pairwise.map toS (fun x y ne e => ne (toS_inj e)) (dedT_nodup xs)
    · rw [← hm k, decide_eq_true_eq, List.mem_map, List.mem_map]
      exact ⟨fun ⟨x, h1, h2⟩ => ⟨x, (dedT_mem x xs).2 h1, h2⟩, fun ⟨x, h1, h2⟩ => ⟨x, (dedT_mem x xs).1 h1, h2⟩⟩
  refine wpAny_bind (wpAny_newList ?_ (by rw [cnt, sizeLine_eq]; omega))
  have lay0 : (z1.heap.push (seqObj "list" out.toArray 0)).get? z1.heap.objs.size = some (seqObj "list" out.toArray 0) := Heap.get?_push_size _ rfl
  refine wpAny_bind (wpAny_holding (wpAny_call_entry slot_list_sort ⟨_, lay0, rfl⟩ entry_list_sort (list_sort_treeKAny strKind_oneLt lay0 ssx.keysOf (fun v₁ v₂ rest e => keyKind_strs (by rw [← e]; exact ssx)) (by rw [cnt, sizeLine_eq]; omega) fun st' hp hs => ⟨_, rfl, ?_⟩) (args_list_sort _)))
  obtain ⟨ys, a1, a2, a3⟩ := sorted_out_str ssx hp hs
  obtain rfl := sortT_is (a2.trans (pk.trans pd)) a3
  obtain ⟨c, lay⟩ := sortedHeap_at (vs := out) (out := (arrOf st').map (·.2)) lay0
  have old : KeepAll s.heap (sortedHeap (z1.heap.push (seqObj "list" out.toArray 0)) z1.heap.objs.size out ((arrOf st').map (·.2))) := fun b u e => by
    have e1 := keep b u e
    have lt := Heap.lt_size e1
    rw [sortedHeap_old (Nat.ne_of_lt lt) (by rw [size_push']; exact Nat.lt_succ_of_lt lt)]
    exact Heap.get?_push_of_some _ e1
  have fresh : H z1.heap.objs.size = none := I.hok.fresh hz
  have len : (((sortT (dedT xs)).map toS).map V.str).length ≤ sizeLine := by
    rw [List.length_map, (a2.trans pk).length_eq, List.length_map, Array.length_toList, hn, sizeLine_eq]; omega
  refine wpAny_pure ⟨_, rfl, .ref z1.heap.objs.size, upd H z1.heap.objs.size (.lst (((sortT (dedT xs)).map toS).map V.str)), ?_, rfl, q _ fresh⟩
  exact I.call' (ch := []) o1 (Un.laid old hz fresh) (I.hok.laid old hz ⟨len, _, c, vals_of_strs a1, lay⟩) (by show AllBare z1.gens; rw [g1]; exact I.bare) (fun _ y => nomatch y)
def eSortSet (a : EF) : EF := fun ρ S => (a ρ S).bind fun x S1 => match strsOf x S1 with
  | some l => if l.length < 4000 then .ok (.ref S1.length) (S1 ++ [.lst ((sortT (dedT l)).map .str)]) else .stuck
  | none => .stuck
theorem ae_sortSet {e : Expr} {Fa : EF} {p pos p2 pos2 : Pos} (hc : X.calm = true) (hm : X.mg "sorted" = none) (hm2 : X.mg "set" = none) (ha : AE X W e Fa) (hb : bootBuiltins "sorted" = some (.builtin "sorted")) (hb2 : bootBuiltins "set" = some (.type "set"))
    (hg : Gl X "sorted" := by rfl) (hg2 : Gl X "set" := by rfl) (hs : starEach [e] X.env = (false, eval e X.env) :: starEach [] X.env := by rfl) :
    AE X W (.Call (.Name "sorted" p) [.Call (.Name "set" p2) [e] [] pos2] [] pos) (eSortSet Fa) := by
  refine pe_mono (pe_callB (cr_sortS hc) hg hm hb (pa_cons (pe_callTy (cr_setS hc) hg2 hm2 hb2 (pa_cons ha pa_nil hs) (by decide) (by decide) hs (by rfl)) pa_nil (by rfl))) fun σ H Q ⟨φ, ρ, S, rh, rl, f⟩ => ?_
  refine ⟨φ, ρ, S, rh, rl, (Fin.bind f).imp ?_⟩
  rintro v H1 ⟨φ1, S1, d, e1, rh1, rv1, f1⟩
  split at f1
  · rename_i l el
    split at f1
    · rename_i few
      obtain ⟨q, rfl, sq⟩ := strsOf_ok rh1 rv1 el
      refine ⟨q, _, rfl, sq, by rw [List.length_map]; exact few, fun a n free le => ?_⟩
      refine ⟨a, l, n, rfl, upd_same, by rw [List.length_map] at le; omega, fun b freeb => ?_⟩
      have x1 := Ext.new (K := X.kw) (φ := φ1) (o := SetH X.w a (l.map toS) n) free
      exact new_list (rh1.new free) (.of_strs _) (fun φ' H' v x rh rv => f1 φ' H' v (x1.trans x) rh rv) b freeb
    · exact f1.elim
  · exact f1.elim
end
end Al

set_option Elab.async false
set_option linter.all false
set_option maxRecDepth 100000
set_option maxHeartbeats 1000000
/-! Al: str.split. -/
namespace Al
open PySem PySem.Spec PyProof.Rows L2
def splitT (x : List Nat) (c : Nat) : List (List Nat) := (Txt.split (toS x) (toS [c])).map fun y => y.cps.toList
def splitM : FM
  | .str x, [.str [c]], S => if x.length + 2 ≤ lim then some (.ref S.length, S ++ [.lst ((splitT x c).map .str)]) else none
  | _, _, _ => none
theorem mt_splitA {X : Cx} : MtA X "str.split" splitM := by
  intro pins s σ H x xs v us Q I rx rs h
  obtain ⟨φ, S, a, ds, d, S', rh, ra, rd, e, k⟩ := h
  unfold splitM at e
  split at e
  · rename_i y c
    split at e
    · rename_i few
      cases e
      obtain ⟨z, rfl, rz⟩ := rvs1 rd
      refine L2.mt_split pins s σ H x _ v us Q I rx rs ⟨toS y, toS [c], ra.str_, by rw [rz.str_], rfl, by rw [toS_len, lim_eq]; exact few, fun p free => ?_⟩
      have q := new_list rh (.of_strs (splitT y c)) k p free
      unfold splitT at q
      rwa [map_eta] at q
    · cases e
  · cases e
/-- what is joined, then split -/
theorem splitT_join {c : Nat} (hc : c < 256) {l : List (List Nat)} (hne : l ≠ []) (h : ∀ p ∈ l, c ∉ p) : splitT (joinL [c] l) c = l := by
  unfold splitT
  have e : toS (joinL [c] l) = Txt.join (toS [c]) (l.map toS) := by rw [TL.join_eq, joinL_eq]
  rw [e, TL.split_join (y := toS [c]) (s := c) (S := []) rfl (by simp [toS, hc]) (by simpa using hne), eta_map]
  intro p hp
  obtain ⟨x, hx, rfl⟩ := List.mem_map.mp hp
  exact h x hx
end Al

set_option Elab.async false
set_option linter.all false
set_option maxRecDepth 100000
set_option maxHeartbeats 1000000
/-! Al: what a program's defs are, in short. -/
namespace Al
open PySem PySem.Spec PyProof.Rows L2
theorem RoomG.mono {j k : Nat} {A : Around} (r : RoomG k A) (h : j ≤ k) : RoomG j A := ⟨r.rm.mono h, r.gd⟩
theorem FnG.mono {P : Program} {w : World} {K : PySem.W.Frag} {mg : Str → Option Value} {base : Heap} {j k : Nat} {f : Addr} {fd : FuncData} {ps : List Str} {sp : Sp} (F : FnG P w K mg base j f fd ps sp) (h : j ≤ k) : FnG P w K mg base k f fd ps sp :=
  ⟨F.cnt, fun A rest z H ar us vs Q E r => F.go A rest z H ar us vs Q E (r.mono h)⟩
/-- a def of the text -/
def Df (K : PySem.W.Frag) (mg : Str → Option Value) (x : Str) (st : Stmt) (ps : List Str) : Prop := ∃ f fd, Fun K x x st f fd ∧ mg x = some (.ref f) ∧ ∀ us : List Value, us.length = ps.length → bindArgs fd ⟨us, []⟩ = pure (ps.zip us)
/-- a def that computes C, with room k -/
def OkF (P : Program) (w : World) (K : PySem.W.Frag) (mg : Str → Option Value) (base : Heap) (k : Nat) (x : Str) (ps : List Str) (C : CF) : Prop :=
  ∃ f fd, FnG P w K mg base k f fd ps (spA ⟨K, w⟩ ps.length C) ∧ mg x = some (.ref f) ∧ PySem.W.keepIn K (.ref f) = true ∧ Binds K fd ps [] ∧ ∃ oc od osl, K.lookup f = some ⟨oc, od, .func fd, osl⟩
theorem OkF.mono {P : Program} {w : World} {K : PySem.W.Frag} {mg : Str → Option Value} {base : Heap} {j k : Nat} {x : Str} {ps : List Str} {C : CF} (F : OkF P w K mg base j x ps C) (h : j ≤ k) : OkF P w K mg base k x ps C := by
  obtain ⟨f, fd, a, b⟩ := F
  exact ⟨f, fd, a.mono h, b⟩
/-- a constant of the module; a name that the module has not -/
def Cn (K : PySem.W.Frag) (mg : Str → Option Value) (x : Str) (d : D) : Prop := ∃ u v, mg x = some u ∧ RelV v u ∧ ∀ w φ H, RV ⟨K, w⟩ φ H d v
section
variable {P : Program} {w : World} {K : PySem.W.Frag} {mg : Str → Option Value} {base : Heap} {k : Nat} {x : Str} {st : Stmt} {ps N : List Str}
theorem ok_def {B : SF} (D : Df K mg x st ps) (S : FnScope N ps (defScope st))
    (hb : ∀ (f : Addr) (cdv : Value) (A : Around) (outer : List PySem.Env) (s : Shared) (H : Hp) (E : XK), RoomG k (cxA P w K mg base N x st f cdv A outer s H E).A → Psd (cxA P w K mg base N x st f cdv A outer s H E) (wA E) →
      PassesOwn (model P w) (cxA P w K mg base N x st f cdv A outer s H E).A (cxA P w K mg base N x st f cdv A outer s H E).env (cxA P w K mg base N x st f cdv A outer s H E).xe → Takes (cxA P w K mg base N x st f cdv A outer s H E) (wA E) → ASs (cxA P w K mg base N x st f cdv A outer s H E) (wA E) (defBody st) B) :
    OkF P w K mg base (k + 1) x ps (bodyF N.length B) := by
  obtain ⟨f, fd, F, g, b⟩ := D
  obtain ⟨oc, od, kV, doc, pm, an, cdv, ct, osl, e, lk, hcd⟩ := id F.ex
  exact ⟨f, fd, fn_okG F S fun cdv A outer s H E hr => hb f cdv A outer s H E hr (psd_of (takes_of rfl rfl rfl rfl)) (passes_of rfl) (takes_of rfl rfl rfl rfl), g, F.kp, .all b, oc, od, osl, lk⟩
theorem ok_zero (D : Df K mg x st ps) : OkF P w K mg base k x ps fun _ _ => .stuck := by
  obtain ⟨f, fd, F, g, b⟩ := D
  obtain ⟨oc, od, kV, doc, pm, an, cdv, ct, osl, e, lk, hcd⟩ := id F.ex
  exact ⟨f, fd, FnG.zero, g, F.kp, .all b, oc, od, osl, lk⟩
/-- the law's own def -/
theorem ok_end {fa : Addr} {y : Str} {C : CF} (D : Df K mg x st [y]) (hfa : mg x = some (.ref fa)) (ok : ∀ base : Heap, OkF P w K mg base k x [y] C) :
    ∃ fd : FuncData, (∀ (s : Shared) (u : Value), BindsTo s fd ⟨[u], []⟩ [(y, u)]) ∧ ∀ base : Heap, K.In base → base.Ns mainGlobals mg → FnG P w K mg base k fa fd [y] (spA ⟨K, w⟩ 1 C) := by
  obtain ⟨f, fd, F, g, b⟩ := D
  obtain ⟨oc, od, kV, doc, pm, an, cdv, ct, osl, e, lk, hcd⟩ := id F.ex
  rw [g] at hfa
  cases hfa
  refine ⟨fd, fun s u => .of_eq (b [u] rfl), fun base _ _ => ?_⟩
  obtain ⟨f2, fd2, G2, g2, _, _, oc2, od2, osl2, lk2⟩ := ok base
  rw [g] at g2
  cases g2
  rw [lk] at lk2
  cases lk2
  exact G2
end
section
variable {X : Cx} {W : WX} {x : Str} {pos : Pos}
theorem ae_cst {d : D} (h : Cn X.kw X.mg x d) (hg : Gl X x := by rfl) (hd : (x == ("__debug__" : Str)) = false := by decide) : AE X W (.Name x pos) (eC d) := by
  obtain ⟨u, v, a, b, c⟩ := h
  exact ae_glob d a b (c X.w) hg hd
variable {k : Nat} {C : CF} {p : Pos} {e : Expr} {es : List Expr} {Fr : AF}
theorem ae_callO {ps : List Str} (F : OkF X.prog X.w X.kw X.mg X.base k x ps C) (hr : RoomG k X.A) (hx : Psd X W) (ha : AA X W (e :: es) Fr) (hl : ∀ ρ S ds S', Fr ρ S = .ok ds S' → ds.length = (e :: es).length) (hn : (e :: es).length = ps.length := by rfl)
    (hg : Gl X x := by rfl) (hdb : (x == ("__debug__" : Str)) = false := by decide) (he : starEach (e :: es) X.env = (false, eval e X.env) :: starEach es X.env := by rfl) (hpl : (backTo pos (starEach es X.env)).any (·.1) = false := by rfl) :
    AE X W (.Call (.Name x p) (e :: es) [] pos) (eCallD C Fr) := by
  obtain ⟨f, fd, a, b, c, d, _⟩ := F
  rw [← hn] at a
  exact ae_callG a hr b c d hx ha hl hg hdb he hpl
end
theorem blk_ok {N : List Str} {sc scope : Scope} {own : List (Str × Nat)} (a : scope.kind = .function) (b : ∀ y ∈ scope.names, scope.names.lookup y.1 = some y.2) (c : ∀ p ∈ own, N[p.2]? = some p.1)
    (d : ∀ y ∈ scope.names, y.2 = .free → sc.names.lookup y.1 = some .cell ∨ sc.names.lookup y.1 = some .free) (e : ∀ y ∈ scope.names, y.2 = .local ∨ y.2 = .cell → y.1 ∈ own.map (·.1) ∨ y.1 ∉ N) : BlkOk N sc scope own := ⟨a, b, c, d, e⟩
theorem bt_len : bootBuiltins "len" = some (.builtin "len") := by decide +kernel
theorem bt_repr : bootBuiltins "repr" = some (.builtin "repr") := by decide +kernel
theorem bt_sorted : bootBuiltins "sorted" = some (.builtin "sorted") := by decide +kernel
theorem bt_min : bootBuiltins "min" = some (.builtin "min") := by decide +kernel
theorem bt_max : bootBuiltins "max" = some (.builtin "max") := by decide +kernel
theorem bt_all : bootBuiltins "all" = some (.builtin "all") := by decide +kernel
theorem bt_any : bootBuiltins "any" = some (.builtin "any") := by decide +kernel
theorem bt_sum : bootBuiltins "sum" = some (.builtin "sum") := by decide +kernel
theorem bt_int : bootBuiltins "int" = some (.type "int") := by decide +kernel
theorem bt_list : bootBuiltins "list" = some (.type "list") := by decide +kernel
theorem bt_tuple : bootBuiltins "tuple" = some (.type "tuple") := by decide +kernel
theorem bt_str : bootBuiltins "str" = some (.type "str") := by decide +kernel
theorem bt_dict : bootBuiltins "dict" = some (.type "dict") := by decide +kernel
theorem bt_bool : bootBuiltins "bool" = some (.type "bool") := by decide +kernel
theorem bt_set : bootBuiltins "set" = some (.type "set") := by decide +kernel
/-! ### facts of the top -/
section
variable {K : PySem.W.Frag} {h : Heap} {mg : Str → Option Value} {x : Str} {st : Stmt} {ps : List Str}
theorem df_mk (X : K.In h) (G : h.Ns mainGlobals mg) {f : Addr} {oc : Value} {od an : Option Addr} {osl : Array (Option Value)} {kV doc pm cdv ct : Value}
    (a : PySem.W.nsIn K mainGlobals x = some (some (.ref f))) (l : K.lookup f = some ⟨oc, od, .func (PySem.W.fnOf x x (defArgs st) (defBody st) (defScope st) .none kV doc pm an cdv ct), osl⟩) (c : PySem.W.codeIn K cdv x = true) (k : PySem.W.keepIn K (.ref f) = true)
    (b : ∀ (kV doc pm : Value) (an : Option Addr) (cdv ct : Value) (us : List Value), us.length = ps.length → bindArgs (PySem.W.fnOf x x (defArgs st) (defBody st) (defScope st) .none kV doc pm an cdv ct) ⟨us, []⟩ = pure (ps.zip us)) : Df K mg x st ps :=
  have F := fun_mk (st := st) l c k
  ⟨_, _, F, PySem.W.mg_of X G a, b kV doc pm an cdv ct⟩
theorem cn_int (X : K.In h) (G : h.Ns mainGlobals mg) {i : Int} {t : Tok} (a : PySem.W.nsIn K mainGlobals x = some (some (.int i t))) : Cn K mg x (.int i) := ⟨_, .int i, PySem.W.mg_of X G a, ⟨t, rfl⟩, fun _ _ _ => rv_int⟩
theorem cn_str (X : K.In h) (G : h.Ns mainGlobals mg) {y : Str} {t : Tok} (a : PySem.W.nsIn K mainGlobals x = some (some (.str y t))) (z : List Nat) (e : y = toS z) : Cn K mg x (.str z) := ⟨_, .str y, PySem.W.mg_of X G a, ⟨t, rfl⟩, fun _ _ _ => by rw [e]; exact rv_str⟩
inductive StrsV : List Value → List (List Nat) → Prop
  | nil : StrsV [] []
  | cons {y : Str} {t : Tok} {us : List Value} {z : List Nat} {zs : List (List Nat)} (e : y = toS z) (r : StrsV us zs) : StrsV (.str y t :: us) (z :: zs)
theorem StrsV.vals : ∀ {us : List Value} {zs : List (List Nat)}, StrsV us zs → Vals ((zs.map toS).map V.str) us
  | _, _, .nil => .nil
  | _, _, .cons e r => by rw [e]; exact .cons ⟨_, rfl⟩ r.vals
theorem cn_strs (X : K.In h) (G : h.Ns mainGlobals mg) {p : Addr} {o : Obj} {its : Array Value} {n : Nat} (a : PySem.W.nsIn K mainGlobals x = some (some (.ref p))) (l : K.lookup p = some o) (zs : List (List Nat)) (h1 : o.cls = .type "tuple") (h3 : o.data = .seq its n) (h4 : its.size ≤ sizeLine) (h5 : StrsV its.toList zs) : Cn K mg x (.tup (zs.map .str)) :=
  ⟨_, .ref p, PySem.W.mg_of X G a, rfl, fun _ φ H => rv_tup (.inr ⟨o, its, n, l, h1, h3, h4, h5.vals⟩) (.of_strs zs)⟩
end
end Al

set_option Elab.async false
set_option linter.all false
set_option maxRecDepth 100000
set_option maxHeartbeats 1000000
/-! Al: objects of the program's own classes: fields, methods, making. -/
namespace Al
open PySem PySem.Spec PyProof.Rows L2
/-! ### fields -/
def putD (f : Str) (d : D) : List (Str × D) → List (Str × D)
  | [] => [(f, d)]
  | p :: r => if p.1 = f then (f, d) :: r else p :: putD f d r
def fGet (fs : List (Str × D)) (f : Str) : Option D := match fs with
  | [] => none
  | p :: r => if p.1 = f then some p.2 else fGet r f
section
variable {K : KW} {φ : List Addr} {H : Hp}
theorem RFs.length : ∀ {ps : List (Str × D)} {qs : List (Str × V)}, RFs K φ H ps qs → ps.length = qs.length
  | [], qs, h => by rw [show qs = [] from h]; rfl
  | p :: ps, qs, h => by
    obtain ⟨v, r, rfl, _, h2⟩ := h
    rw [List.length_cons, List.length_cons, RFs.length h2]
theorem RFs.get (f : Str) : ∀ {ps : List (Str × D)} {qs : List (Str × V)}, RFs K φ H ps qs → (∀ d, fGet ps f = some d → ∃ v, qs.lookup f = some v ∧ RV K φ H d v) ∧ (fGet ps f = none → qs.lookup f = none)
  | [], qs, h => by rw [show qs = [] from h]; exact ⟨fun d e => (by cases e), fun _ => rfl⟩
  | p :: ps, qs, h => by
    obtain ⟨v, r, rfl, h1, h2⟩ := h
    unfold fGet
    by_cases e : p.1 = f
    · rw [if_pos e]
      have : ((p.1, v) :: r).lookup f = some v := by rw [e]; simp [List.lookup]
      exact ⟨fun d z => (by cases z; exact ⟨v, this, h1⟩), fun z => (by cases z)⟩
    · rw [if_neg e]
      have : ((p.1, v) :: r).lookup f = r.lookup f := by
        have : (f == p.1) = false := by simpa using Ne.symm e
        simp [List.lookup, this]
      rw [this]
      exact RFs.get f h2
theorem RFs.put {d : D} {v : V} (f : Str) (rv : RV K φ H d v) : ∀ {ps : List (Str × D)} {qs : List (Str × V)}, RFs K φ H ps qs → RFs K φ H (putD f d ps) (putF f v qs)
  | [], qs, h => by rw [show qs = [] from h]; exact ⟨v, [], rfl, rv, rfl⟩
  | p :: ps, qs, h => by
    obtain ⟨w, r, rfl, h1, h2⟩ := h
    unfold putD putF
    by_cases e : p.1 = f
    · have e' : (p.1 == f) = true := by simpa using e
      first
        | rw [if_pos e, if_pos e']; exact ⟨v, r, rfl, rv, h2⟩
        | rw [if_pos e, if_pos e]; exact ⟨v, r, rfl, rv, h2⟩
        | simp only [e, if_true]; exact ⟨v, r, rfl, rv, h2⟩
    · have e' : (p.1 == f) = false := by simpa using e
      first
        | rw [if_neg e, if_neg (by rw [e']; exact Bool.false_ne_true)]; exact ⟨w, _, rfl, h1, RFs.put f rv h2⟩
        | rw [if_neg e, if_neg e]; exact ⟨w, _, rfl, h1, RFs.put f rv h2⟩
end
/-- o.f -/
def fldO (C : Addr) (f : Str) (x : D) (S : Store) : Option (D × Store) := match x with
  | .ref n => match S[n]? with
    | some (.ins C' fs) => if C' = C then (fGet fs f).map fun d => (d, S) else none
    | _ => none
  | _ => none
def eFld (C : Addr) (f : Str) (o : EF) : EF := fun ρ S => (o ρ S).bind fun x S1 => .of (fldO C f x S1)
/-- o.f = v -/
def fputO (C : Addr) (f : Str) (x d : D) (S : Store) : Option Store := match x with
  | .ref n => match S[n]? with
    | some (.ins C' fs) => if C' = C ∧ fs.length < 1000 then some (S.set n (.ins C (putD f d fs))) else none
    | _ => none
  | _ => none
def sFldS (C : Addr) (f : Str) (v o : EF) : SF := fun ρ S => (v ρ S).bind fun d S1 => (o ρ S1).bind fun x S2 => match fputO C f x d S2 with
  | some S3 => .ok (.nx ρ) S3
  | none => .stuck
section
variable {X : Cx} {W : WX} {o value : Expr} {Fo Fv : EF} {f : Str} {C : Addr} {pos pos' : Pos}
theorem ae_fld (c : Cls X.kw C) (n : NoAttr X.kw C f) (ho : AE X W o Fo) (hb : attributeBase o f X.env (eval o X.env) = eval o X.env := by rfl) : AE X W (.Attribute o f pos) (eFld C f Fo) := by
  refine pe_mono (pe_fld ho hb) fun σ H Q ⟨φ, ρ, S, rh, rl, fi⟩ => ⟨φ, ρ, S, rh, rl, (Fin.bind fi).imp ?_⟩
  rintro v H1 ⟨φ1, S1, d, e1, rh1, rv1, f1⟩
  obtain ⟨d', S', e, k⟩ := fin_of f1
  unfold fldO at e
  split at e
  · split at e
    · rename_i nn _ C' fs en
      split at e
      · rename_i hC
        subst hC
        obtain ⟨d2, e2, e3⟩ := mapOpt e
        cases e3
        obtain ⟨p, rfl, g, dx, vs, h1, h2, r⟩ := rh1.obj en rv1
        obtain ⟨v, e4, rv⟩ := (r.get f).1 _ e2
        exact ⟨p, _, dx, vs, v, rfl, h1, c, n, e4, k φ1 H1 v .refl rh1 rv⟩
      · cases e
    · cases e
  · cases e
theorem mu_ins' {H : Hp} {p : Addr} {dx : Addr} {vs : List (Str × V)} (h : H p = some (.ins C dx vs)) : Mu (H p) := mu_ins h
theorem as_fld (c : Cls X.kw C) (n : NoAttr X.kw C f) (ho : AE X W o Fo) (hv : AE X W value Fv) (hs : swapsWith value (some (.Attribute o f pos')) pos.line X.env = pure false := by rfl) : AS X W (.Assign [.Attribute o f pos'] value pos) (sFldS C f Fv Fo) := by
  refine ps_mono (ps_fld ho hv hs) fun D' σ H ⟨φ, ρ, S, rh, rl, fi⟩ => ⟨φ, ρ, S, rh, rl, (Fin.bindS trivial fi).imp ?_⟩
  rintro v H1 ⟨φ1, S1, d1, e1, rh1, rv1, f1⟩
  refine ⟨φ1, ρ, S1, rh1, rl.ext e1, (Fin.bindS trivial f1).imp ?_⟩
  rintro x H2 ⟨φ2, S2, d2, e2, rh2, rv2, f2⟩
  split at f2
  · rename_i S3 e
    unfold fputO at e
    split at e
    · split at e
      · rename_i nn _ C' fs en
        split at e
        · cases e
          rename_i hC
          obtain ⟨rfl, hl⟩ := hC
          obtain ⟨p, rfl, g, dx, vs, h1, h2, r⟩ := rh2.obj en rv2
          refine ⟨p, _, dx, vs, rfl, h1, c, n, by rw [← r.length]; exact hl, ?_⟩
          have x3 := Ext.wr (K := X.kw) (φ := φ2) (o := HO.ins C' dx (putF f v vs)) (mu_ins h1)
          refine f2 φ2 _ σ x3 (rh2.set (x := .ins C' (putD f d1 fs)) g (mu_ins h1) (fun q hq => by rw [h1] at hq; cases hq) ⟨dx, _, upd_same, ?_, ((r.put f (rv1.ext e2)).ext x3)⟩) (((rl.ext e1).ext e2).ext x3)
          rw [upd_ne (fun z => by rw [z, h1] at h2; cases h2)]
          exact h2
        · cases e
      · cases e
    · cases e
  · exact f2.elim
end
/-! ### methods -/
/-- a method of the class at C that computes F -/
def OkM (P : Program) (w : World) (K : PySem.W.Frag) (mg : Str → Option Value) (base : Heap) (k : Nat) (C : Addr) (m : Str) (ps : List Str) (F : CF) : Prop :=
  ∃ f fd, FnG P w K mg base k f fd ps (spA ⟨K, w⟩ ps.length F) ∧ Meth K C m f ∧ Cls K C ∧ Binds K fd ps []
theorem OkM.mono {P : Program} {w : World} {K : PySem.W.Frag} {mg : Str → Option Value} {base : Heap} {j k : Nat} {C : Addr} {m : Str} {ps : List Str} {F : CF} (h : OkM P w K mg base j C m ps F) (l : j ≤ k) : OkM P w K mg base k C m ps F := by
  obtain ⟨f, fd, a, b⟩ := h
  exact ⟨f, fd, a.mono l, b⟩
/-- a method of the text -/
def Dm (K : PySem.W.Frag) (C : Addr) (m qual : Str) (st : Stmt) (ps : List Str) : Prop := ∃ f fd, Fun K m qual st f fd ∧ Meth K C m f ∧ Cls K C ∧ ∀ us : List Value, us.length = ps.length → bindArgs fd ⟨us, []⟩ = pure (ps.zip us)
def insOf (C : Addr) (m : Str) (x : D) (S : Store) : Bool := match x with
  | .ref n => match S[n]? with
    | some (.ins C' fs) => decide (C' = C) && (fGet fs m).isNone
    | _ => false
  | _ => false
/-- o.m(..) -/
def eMeth (C : Addr) (m : Str) (F : CF) (o : EF) (a : AF) : EF := fun ρ S => (o ρ S).bind fun x S1 => if insOf C m x S1 = true then (a ρ S1).bind fun ds S2 => F (x :: ds) S2 else .stuck
/-- C(..) -/
def eMake (C : Addr) (F : CF) (a : AF) : EF := fun ρ S => (a ρ S).bind fun ds S1 => (F (.ref S1.length :: ds) (S1 ++ [.ins C []])).bind fun d S2 => match d with
  | .non => .ok (.ref S1.length) S2
  | _ => .stuck
section
variable {P : Program} {w : World} {K : PySem.W.Frag} {mg : Str → Option Value} {base : Heap} {k : Nat} {C : Addr} {m qual : Str} {st : Stmt} {ps N : List Str}
theorem ok_meth {B : SF} (D : Dm K C m qual st ps) (S : FnScope N ps (defScope st))
    (hb : ∀ (f : Addr) (cdv : Value) (A : Around) (outer : List PySem.Env) (s : Shared) (H : Hp) (E : XK), RoomG k (cxA P w K mg base N qual st f cdv A outer s H E).A → Psd (cxA P w K mg base N qual st f cdv A outer s H E) (wA E) →
      PassesOwn (model P w) (cxA P w K mg base N qual st f cdv A outer s H E).A (cxA P w K mg base N qual st f cdv A outer s H E).env (cxA P w K mg base N qual st f cdv A outer s H E).xe → Takes (cxA P w K mg base N qual st f cdv A outer s H E) (wA E) → ASs (cxA P w K mg base N qual st f cdv A outer s H E) (wA E) (defBody st) B) :
    OkM P w K mg base (k + 1) C m ps (bodyF N.length B) := by
  obtain ⟨f, fd, F, g, c, b⟩ := D
  exact ⟨f, fd, fn_okG F S fun cdv A outer s H E hr => hb f cdv A outer s H E hr (psd_of (takes_of rfl rfl rfl rfl)) (passes_of rfl) (takes_of rfl rfl rfl rfl), g, c, .all b⟩
theorem okm_zero (D : Dm K C m qual st ps) : OkM P w K mg base k C m ps fun _ _ => .stuck := by
  obtain ⟨f, fd, F, g, c, b⟩ := D
  exact ⟨f, fd, FnG.zero, g, c, .all b⟩
end
section
variable {X : Cx} {W : WX} {k : Nat} {C : Addr} {m : Str} {ps : List Str} {F : CF} {o e : Expr} {es : List Expr} {Fo : EF} {Fr : AF} {p pos apos : Pos}
theorem insOf_ok {K : KW} {φ : List Addr} {H : Hp} {S : Store} {x : D} {v : V} (rh : RH K φ H S) (h : insOf C m x S = true) (r : RV K φ H x v) : ∃ a dx fs, v = .ref a ∧ H a = some (.ins C dx fs) ∧ fs.lookup m = none := by
  unfold insOf at h
  split at h
  · split at h
    · rename_i n _ C' fs en
      simp only [Bool.and_eq_true, decide_eq_true_eq, Option.isNone_iff_eq_none] at h
      obtain ⟨rfl, h2⟩ := h
      obtain ⟨p, rfl, g, dx, vs, h1, _, rf⟩ := rh.obj en r
      exact ⟨p, dx, vs, rfl, h1, (rf.get m).2 h2⟩
    · cases h
  · cases h
/-- the callee runs -/
theorem run_G {f : Addr} {fd : FuncData} {sp : Sp} {pins : List (Addr × Obj)} {σ : St} {H : Hp} {s : Shared} {Q : VK} {us : List Value} {vs : List V} (G : FnG X.prog X.w X.kw X.mg X.base k f fd ps sp) (hr : RoomG k X.A) (hb : Binds X.kw fd ps []) (hx : Psd X W)
    (I : Inv X pins σ H s) (r : Vals vs us) (q : sp vs H Q (WE W σ)) : wpAny (model X.prog X.w) X.A (call (.ref f) us) (EP X pins σ Q) X.xe s := by
  have hb1 := hb s us I.kIn (by rw [List.append_nil, ← r.length]; exact G.cnt _ _ _ _ q)
  rw [List.append_nil] at hb1
  refine wpAny_call (codeAny_mono (G.go X.A X.stack s H ⟨us, []⟩ us vs Q (WE W σ) hr I.env0 hb1 r q) ?_)
  rintro (e1 | fl) s2 out
  · exact hx σ pins H s e1 s2 I out
  · cases fl with
    | ret u => exact I.after out
    | next => exact out.elim
    | brk => exact out.elim
    | cont => exact out.elim
theorem ae_meth {pl : Sem Bool} (G : OkM X.prog X.w X.kw X.mg X.base k C m ps F) (hr : RoomG k X.A) (hx : Psd X W) (ho : AE X W o Fo) (ha : AA X W (e :: es) Fr) (hl : ∀ ρ S ds S', Fr ρ S = .ok ds S' → ds.length = (e :: es).length) (hn : (e :: es).length + 1 = ps.length := by rfl)
    (hst : starEach (e :: es) X.env = (false, eval e X.env) :: starEach es X.env := by rfl) (hpl : (backTo pos (starEach es X.env)).any (·.1) = false := by rfl)
    (ht : eval (.Call (.Attribute o m apos) (e :: es) [] pos) X.env = (do
      let ov ← eval o X.env
      standAt apos.atName
      let (f, first) ← holding [ov] (getMethod ov m pl)
      callWith pos f first (backTo pos (starEach (e :: es) X.env)) (backToKw pos (keywordEach [] X.env))) := by rfl) :
    AE X W (.Call (.Attribute o m apos) (e :: es) [] pos) (eMeth C m F Fo Fr) := by
  obtain ⟨f, fd, G, hm, c, hb⟩ := G
  refine ⟨fun pins s σ H Q I h => ?_⟩
  obtain ⟨φ, ρ, S, rh, rl, fi⟩ := h
  have T : tF X.kw W Fo σ H fun v H1 => (∃ a dx fs, v = .ref a ∧ H1 a = some (.ins C dx fs) ∧ fs.lookup m = none) ∧ tFA X.kw W Fr σ H1 fun vs H2 => spA X.kw ps.length F (v :: vs) H2 Q (WE W σ) := by
    refine ⟨φ, ρ, S, rh, rl, (Fin.bind fi).imp ?_⟩
    rintro v H1 ⟨φ1, S1, d, e1, rh1, rv1, f1⟩
    split at f1
    · rename_i hi
      refine ⟨insOf_ok rh1 hi rv1, φ1, ρ, S1, rh1, rl.ext e1, ?_⟩
      cases z : Fr ρ S1 with
      | stuck => rw [z] at f1; exact f1.elim
      | exc xx S2 => rw [z] at f1; exact f1
      | ok ds S2 =>
        rw [z] at f1
        intro φ2 H2 vs x2 rh2 rv2
        have f1 : Fin X.kw W φ1 H1 σ (F (d :: ds) S2) Q := f1
        refine spA_of ?_ rh2 (.cons (rv1.ext x2) rv2) (f1.ext x2)
        rw [List.length_cons, ← rv2.length, hl _ _ _ _ z, hn]
    · exact f1.elim
  refine PySem.W.methodCall_KW (pl := pl) (thn (ho.run pins s σ H _ I T) ?_) ht
  rintro u s1 ⟨x, H1, I1, rx, ⟨a, dx, fs, ex, ea, lm⟩, q⟩
  subst ex
  obtain rfl : u = Value.ref a := rx
  refine getmeth_ok I1 ea c hm lm ?_
  refine PySem.W.callWith_K (first := [.ref a]) (h₀ := X.base) I.ok.mod.kin hm.kp (thn (ha.run pos pins s1 σ H1 _ I1 q) ?_) hst hpl
  rintro us s2 ⟨vs, H2, I2, r, q2⟩
  exact ⟨I2.kIn, run_G (us := .ref a :: us) (vs := .ref a :: vs) G hr hb hx I2 (.cons rfl r) q2⟩
theorem RoomG.make {A : Around} (r : RoomG (k + 1) A) (C : Addr) (us : List Value) (kw : List (Str × Value)) : RoomG k (A.under (.builtin "type.__call__" ⟨.ref C :: us, kw⟩)) := ⟨r.rm.make C us kw, r.gd⟩
/-- a class that is made by its own __init__ -/
def OkC (P : Program) (w : World) (K : PySem.W.Frag) (mg : Str → Option Value) (base : Heap) (k : Nat) (x : Str) (C : Addr) (ps : List Str) (F : CF) : Prop :=
  ∃ f fd, FnG P w K mg base k f fd ps (spA ⟨K, w⟩ ps.length F) ∧ Mk K C f ∧ Binds K fd ps [] ∧ mg x = some (.ref C)
theorem ae_make {x : Str} (G : OkC X.prog X.w X.kw X.mg X.base k x C ps F) (hr : RoomG (k + 1) X.A) (hx : Psd X W) (ha : AA X W (e :: es) Fr) (hl : ∀ ρ S ds S', Fr ρ S = .ok ds S' → ds.length = (e :: es).length) (hn : (e :: es).length + 1 = ps.length := by rfl)
    (hg : Gl X x := by rfl) (hdb : (x == ("__debug__" : Str)) = false := by decide) (he : starEach (e :: es) X.env = (false, eval e X.env) :: starEach es X.env := by rfl) (hpl : (backTo pos (starEach es X.env)).any (·.1) = false := by rfl) :
    AE X W (.Call (.Name x p) (e :: es) [] pos) (eMake C F Fr) := by
  obtain ⟨f, fd, G, M, hb, hm⟩ := G
  refine ⟨fun pins s σ H Q I h => ?_⟩
  obtain ⟨φ, ρ, S, rh, rl, fi⟩ := h
  refine wpAny_Call_Name_kw (ld_glob I hg hm ?_ hdb)
  have T : tFA X.kw W Fr σ H fun vs H1 => ∀ x dx, H1 x = none → H1 dx = none → dx ≠ x → spA X.kw ps.length F (.ref x :: vs) (upd (upd H1 dx (.own x)) x (.ins C dx [])) (fun v H2 => v = .non ∧ Q (.ref x) H2) (WE W σ) := by
    refine ⟨φ, ρ, S, rh, rl, ?_⟩
    unfold eMake at fi
    cases z : Fr ρ S with
    | stuck => rw [z] at fi; exact fi.elim
    | exc xx S1 => rw [z] at fi; exact fi
    | ok ds S1 =>
      rw [z] at fi
      intro φ1 H1 vs x1 rh1 rv1 x dx hx0 hdx ne
      have nx : (upd H1 dx (.own x)) x = none := by rw [upd_ne (Ne.symm ne)]; exact hx0
      have y1 : Ext X.kw φ1 H1 φ1 (upd H1 dx (.own x)) := Ext.new hdx
      have y2 : Ext X.kw φ1 (upd H1 dx (.own x)) (φ1 ++ [x]) (upd (upd H1 dx (.own x)) x (.ins C dx [])) := Ext.num nx
      have rh2 := (rh1.new (o := .own x) hdx).alloc (x := .ins C []) (o := HO.ins C dx []) nx ⟨dx, [], upd_same, by rw [upd_ne ne, upd_same], rfl⟩
      have rx : RV X.kw (φ1 ++ [x]) (upd (upd H1 dx (.own x)) x (.ins C dx [])) (.ref S1.length) (.ref x) := rv_ref (by rw [← rh1.len]; simp)
      have fi : Fin X.kw W φ H σ ((F (.ref S1.length :: ds) (S1 ++ [.ins C []])).bind fun d S2 => match d with
        | .non => .ok (.ref S1.length) S2
        | _ => .stuck) Q := fi
      have fi2 := ((fi.ext x1).ext y1).ext y2
      refine spA_of ?_ rh2 (.cons rx ((rv1.ext y1).ext y2)) ?_
      · rw [List.length_cons, ← rv1.length, hl _ _ _ _ z, hn]
      · cases zz : F (.ref S1.length :: ds) (S1 ++ [.ins C []]) with
        | stuck => rw [zz] at fi2; exact fi2.elim
        | exc xx S2 => rw [zz] at fi2; exact fi2
        | ok d S2 =>
          rw [zz] at fi2
          intro φ3 H3 v x3 rh3 rv3
          cases d with
          | non => exact ⟨rv3.non_, fi2 φ3 H3 _ x3 rh3 (rx.ext x3)⟩
          | _ => exact fi2.elim
  refine PySem.W.callWith_K (h₀ := X.base) I.ok.mod.kin M.kp (thn (ha.run pos pins s σ H _ I T) ?_) he hpl
  rintro us s1 ⟨vs, H1, I1, r, q⟩
  refine ⟨I1.kIn, ?_⟩
  have hq := q (s1.heap.objs.size + 1) s1.heap.objs.size (I1.hok.fresh (Nat.le_succ _)) (I1.hok.fresh (Nat.le_refl _)) (Nat.ne_of_lt (Nat.lt_succ_self _))
  have I2 := Inv.made (C := C) I1
  have r2 : Vals (V.ref (s1.heap.objs.size + 1) :: vs) (Value.ref (s1.heap.objs.size + 1) :: us) := .cons rfl r
  have hl2 : ((Value.ref (s1.heap.objs.size + 1) :: us) ++ []).length = ps.length := by
    have e := r2.length
    rw [G.cnt _ _ _ _ hq] at e
    rw [List.append_nil]
    exact e.symm
  have hb1 := hb { s1 with heap := (s1.heap.push PySem.W.emptyDict).push (PySem.W.instObj C s1.heap.objs.size) } (Value.ref (s1.heap.objs.size + 1) :: us) I2.kIn hl2
  rw [List.append_nil] at hb1
  refine wpAny_call (make_map (f := f) I1.kIn M.makes M.init (beq_iff_eq.mp M.fn) (codeAny_mono (G.go _ X.stack _ _ ⟨Value.ref (s1.heap.objs.size + 1) :: us, []⟩ (Value.ref (s1.heap.objs.size + 1) :: us) _ _ (WE W σ) (hr.make C us [])
    (I2.env0.make C us []) hb1 r2 hq) ?_))
  rintro (er | fl) s' out
  · exact hx σ pins _ _ er s' I2 out
  · cases fl with
    | ret u =>
      obtain ⟨v, H', I3, rv, ev, q3⟩ := I2.after out
      subst ev
      exact ⟨rv, ⟨V.ref (s1.heap.objs.size + 1), H', I3, rfl, q3⟩⟩
    | next => exact out.elim
    | brk => exact out.elim
    | cont => exact out.elim
end
end Al

set_option Elab.async false
set_option linter.all false
set_option maxRecDepth 100000
set_option maxHeartbeats 2000000
/-! Al: exceptions of the program's own. -/
namespace Al
open PySem PySem.Spec PyProof.Rows L2
/-! ### a class over Exception: class C(Exception): def __init__(self, m): Exception.__init__(self, ..); self.f = m -/
structure OxE (K : PySem.W.Frag) (C : Addr) : Prop where
  cls : ∃ nm q N bs sn sub ab col dd k0 k1 k2 k3 k5, K.lookup C = some (excClassObj nm q C N bs PySem.ESX.exTail true sn sub ab col dd k0 k1 k2 k3 k5 "Exception.__new__")
  sa : PySem.W.findIn K (.ref C) "__setattr__" = some (some (.builtin "object.__setattr__"))
  exC : PySem.W.subIn K (.ref C) (.type "BaseException") = some true
  tyC : PySem.W.typeIn K (.ref C) = some (.type "type")
  kC : PySem.W.keepIn K (.ref C) = true
theorem exTail_same (Y : String) : PySem.ESX.exTail.contains (Value.type Y) = [Value.type "Exception", .type "BaseException", .type "object"].contains (Value.type Y) := rfl
section
variable {X : Cx} {pins : List (Addr × Obj)} {σ : St} {H : Hp} {s : Shared} {a C dx : Addr} {f : Str} {y : V} {u : Value}
/-- the exception gets its dict -/
theorem inv_dict {h' : Heap} {tk : Nat} {ob : Obj} (I : Inv X pins σ H s) (ea : H a = some (exo a C none)) (hfree : s.heap.objs.size ≤ dx) (hne : dx ≠ a) (keep : ∀ b q, b ≠ a → s.heap.get? b = some q → h'.get? b = some q)
    (new : ObjOk X.prog X.w H h' a (exo a C (some dx))) (here : h'.get? a = some ob) (newd : ObjOk X.prog X.w H h' dx (exd dx [(f, y)])) : Inv X pins σ (upd (upd H dx (exd dx [(f, y)])) a (exo a C (some dx))) { s with heap := h', toks := tk } := by
  have fresh : H dx = none := I.hok.fresh hfree
  have old : ∀ {b : Addr} {q : Obj}, s.heap.get? b = some q → b ≠ dx := fun z => Nat.ne_of_lt (Nat.lt_of_lt_of_le (Heap.lt_size z) hfree)
  have out : ∀ {b : Addr}, H b = none → b ≠ a := fun n z => by rw [z, ea] at n; cases n
  have un : Un X.fs [] H (upd (upd H dx (exd dx [(f, y)])) a (exo a C (some dx))) s.heap h' := by
    constructor
    · exact fun b q z n _ _ => keep b q (out n) z
    · exact fun b q z n _ _ => ⟨q.slots, keep b q (out n) z⟩
    · intro b q z n _
      rw [upd_ne (out n), upd_ne (old z)]
      exact n
    · intro b q z _
      by_cases e : b = a
      · exact ⟨ob, by rw [e]; exact here⟩
      · exact ⟨q, keep b q e z⟩
    · intro b xs z
      have n1 : b ≠ a := at_ne ea z exo_tup
      rw [upd_ne n1, upd_ne (ne_of_none z fresh)]
      exact z
    · intro b q v z
      have n1 : b ≠ a := at_ne ea z exo_frz
      rw [upd_ne n1, upd_ne (ne_of_none z fresh)]
      exact z
    · intro b ps z
      have n1 : b ≠ a := at_ne ea z exo_tbl
      exact ⟨#[], by rw [upd_ne n1, upd_ne (ne_of_none z fresh), z, Array.append_empty]⟩
  refine I.un (t' := tk) un fun b o' z => ?_
  by_cases e : b = a
  · subst e
    rw [upd_same] at z
    cases z
    obtain ⟨w1, w2, w3⟩ := new
    exact ⟨w1, w2, w3⟩
  · rw [upd_ne e] at z
    by_cases e2 : b = dx
    · subst e2
      rw [upd_same] at z
      cases z
      obtain ⟨w1, w2, w3⟩ := newd
      exact ⟨w1, w2, w3⟩
    · rw [upd_ne e2] at z
      refine (I.hok b o' z).stay (fun c v hc q => keep c v ?_ q) (fun c hc => ?_) fun c xs hc => ?_
      · rcases hc with hc | hc
        · rw [hc]; exact e
        · exact at_ne ea hc exo_own
      · rw [upd_ne (at_ne ea hc exo_own), upd_ne (ne_of_none hc fresh)]
        exact hc
      · rw [upd_ne (at_ne ea hc exo_tup), upd_ne (ne_of_none hc fresh)]
        exact hc
/-- self.f = y -/
theorem xst_ok {Q : Unit → Shared → Prop} {E : Value → Shared → Prop} {A : Around} (T : OxE X.K C) (I : Inv X pins σ H s) (ea : H a = some (exo a C none)) (no : PySem.W.findIn X.K (.ref C) f = some none) (ry : RelV y u)
    (h : ∀ dx s', H dx = none → dx ≠ a → Inv X pins σ (upd (upd H dx (exd dx [(f, y)])) a (exo a C (some dx))) s' → Q () s') : wpAny (model X.prog X.w) A (setAttr (.ref a) f u) Q E s := by
  obtain ⟨nm, q, N, bs, sn, sub, ab, col, dd, k0, k1, k2, k3, k5, hC⟩ := T.cls
  have hcl : PySem.W.clsIn X.K C = some { name := nm, bases := bs, mro := .ref C :: PySem.ESX.exTail, ns := N, qualname := q, hasDict := true, slotNames := sn, subclasses := sub, abstract := ab, collection := col, hasDel := false } := by
    unfold PySem.W.clsIn
    rw [hC]
  obtain ⟨t1, ho⟩ := exo_at I.hok ea
  obtain ⟨hp, g, d, t, os⟩ := s
  refine PySem.W.set_plain I.kIn (od := none) ⟨ho, rfl, rfl, trivial⟩ T.sa ?_
  refine PySem.ESX.osa_new I.kIn ho hcl rfl rfl no ?_
  intro h' tk' dx keep fr ne here hn
  show Q () _
  refine h dx _ (I.hok.fresh fr) ne (inv_dict (ob := _) I ea fr ne keep (exo_ok here) here (exd_ok hn ?_))
  exact relO_put (fs := []) ry fun g => True.intro
/-- Exception.__init__(self, ..) -/
theorem xinit_ok {us : List Value} {Q : Value → Shared → Prop} {E : Value → Shared → Prop} {A : Around} (T : OxE X.K C) (I : Inv X pins σ H s) (ea : H a = some (exo a C none)) (few : us.length ≤ sizeLine) (h : ∀ s', Inv X pins σ H s' → Q .none s') :
    wpAny (model X.prog X.w) A (call (.builtin "Exception.__init__") (.ref a :: us)) Q E s := by
  obtain ⟨nm, q, N, bs, sn, sub, ab, col, dd, k0, k1, k2, k3, k5, hC⟩ := T.cls
  obtain ⟨t1, ho⟩ := exo_at I.hok ea
  obtain ⟨hp, g, d, t, os⟩ := s
  refine wpAny_call (PySem.HandSPX.init_base F.excBase_Exception exTail_same (I.kIn _ _ hC) ho few ?_)
  intro h' t2 keep here
  have J := I.write (t' := t) (x := a) (e := a) (o := exo a C none) (by rw [ea]; trivial) (.inl rfl) keep ⟨_, here⟩ (exo_ok here)
  have same : upd H a (exo a C none) = H := funext fun b => by
    by_cases e : b = a
    · rw [e, upd_same, ea]
    · exact upd_ne e
  rw [same] at J
  exact h _ J
/-! ### its __init__ as a def -/
/-- the promise of such an __init__ -/
def spX (C : Addr) (f : Str) : Sp := fun vs H Q _ => ∃ (a : Addr) (y : V), vs = [.ref a, y] ∧ H a = some (exo a C none) ∧ ∀ dx, H dx = none → dx ≠ a → Q .non (upd (upd H dx (exd dx [(f, y)])) a (exo a C (some dx)))
/-- Exception.__init__(self, ..) as an expression -/
def tXi (K : PySem.W.Frag) (ta : TA) : TE := fun σ H Q => ta σ H fun vs H1 => ∃ (a C : Addr) (ws : List V), vs = .ref a :: ws ∧ ws.length ≤ 1000 ∧ OxE K C ∧ H1 a = some (exo a C none) ∧ Q .non H1
theorem type_Exc : typeOf (.type "Exception") = pure (.type "type") := by kernel_rfl
theorem pe_xinit {X : Cx} {e : Expr} {es : List Expr} {ta : TA} {p1 p2 pos : Pos} {pl : Sem Bool} (hg : Gl X "Exception") (hm : X.mg "Exception" = none) (vV : PySem.W.findCls X.K (.type "Exception") (.type "type") "__init__" = some (.val (.builtin "Exception.__init__"))) (ha : PA X (e :: es) ta)
    (hc : eval (.Call (.Attribute (.Name "Exception" p1) "__init__" p2) (e :: es) [] pos) X.env = (do
      let ov ← eval (.Name "Exception" p1) X.env
      standAt p2.atName
      let (f, first) ← holding [ov] (getMethod ov "__init__" pl)
      callWith pos f first (backTo pos (starEach (e :: es) X.env)) (backToKw pos (keywordEach [] X.env))) := by rfl)
    (he : starEach (e :: es) X.env = (false, eval e X.env) :: starEach es X.env := by rfl) (hpl : (backTo pos (starEach es X.env)).any (·.1) = false := by rfl) :
    PE X (.Call (.Attribute (.Name "Exception" p1) "__init__" p2) (e :: es) [] pos) (tXi X.K ta) := by
  refine ⟨fun pins s σ H Q I h => ?_⟩
  refine PySem.W.methodCall_KW (ld_blt I hg hm (by decide +kernel : bootBuiltins "Exception" = some (.type "Exception")) ?_ (by decide) (by decide)) hc
  obtain ⟨m, fr⟩ := I.fr
  refine PySem.W.method_type fr I.ok.mod.kin type_Exc (by decide +kernel) vV (by decide +kernel) ?_
  show wpAny _ _ (callWith pos (Value.builtin "Exception.__init__") [] (backTo pos (starEach (e :: es) X.env)) []) _ _ _
  refine PyProof.Rows.callWith_method1 (thn (ha.run pos pins _ σ H _ (I.tok _) h) ?_) he hpl
  rintro us s1 ⟨vs, H1, I1, r1, a, C, ws, rfl, hl, T, ea, q⟩
  cases r1 with
  | @cons _ u0 _ ur ra rs =>
    obtain rfl : u0 = Value.ref a := ra
    refine xinit_ok T I1 ea ?_ fun s' J => ⟨.non, H1, J, rfl, q⟩
    rw [← Paired.length rs, sizeLine_eq]
    omega
/-- self.f = e, in it -/
def tXs (K : PySem.W.Frag) (f : Str) (to te : TE) : TS := fun D σ H => te σ H fun y H1 => to σ H1 fun x H2 => ∃ a C : Addr, x = .ref a ∧ OxE K C ∧ PySem.W.findIn K (.ref C) f = some none ∧ H2 a = some (exo a C none) ∧
  ∀ dx, H2 dx = none → dx ≠ a → D.nx σ (upd (upd H2 dx (exd dx [(f, y)])) a (exo a C (some dx)))
theorem ps_xst {X : Cx} {o e : Expr} {to te : TE} {f : Str} {p' pos : Pos} (ho : PE X o to) (he : PE X e te) (hs : swapsWith e (some (.Attribute o f p')) pos.line X.env = pure false := by rfl) : PS X (.Assign [.Attribute o f p'] e pos) (tXs X.K f to te) := by
  refine ⟨fun pins s σ H D I h => ?_⟩
  refine plainObj_wpAny_Assign_Attribute (thn (he.run pins s σ H _ I h) ?_) hs
  rintro v s1 ⟨y, H1, I1, r1, q1⟩
  refine thn (ho.run pins s1 σ H1 _ I1 q1) ?_
  rintro u s2 ⟨x, H2, I2, r2, a, C, rfl, T, hno, ea, q⟩
  obtain rfl : u = Value.ref a := r2
  exact xst_ok T I2 ea hno r1 fun dx s' n ne J => ⟨σ, _, J, q dx n ne⟩
end
end Al
namespace Al
open PySem PySem.Spec PyProof.Rows L2
/-! ### making one -/
theorem pmk_x {X : Cx} {CX : CXT} {x : Str} {C fI : Addr} {k : Nat} {fd : FuncData} {ps : List Str} {sp : Sp} {e : Expr} {es : List Expr} {ta : TA} {p pos : Pos} (T : OxE X.K C) (iC : PySem.W.findIn X.K (.ref C) "__init__" = some (some (.ref fI))) (tI : PySem.W.typeIn X.K (.ref fI) = some (.type "function"))
    (F1 : FnOk X.prog X.w X.K X.mg X.base CX k fI fd ps sp) (hr : Room (k + 1) X.A) (hb : Binds X.K fd ps []) (hx : Passes CX X (fun _ _ _ => False)) (hg : Gl X x) (hm : X.mg x = some (.ref C)) (ha : PA X (e :: es) ta)
    (hdb : (x == ("__debug__" : Str)) = false := by decide) (he : starEach (e :: es) X.env = (false, eval e X.env) :: starEach es X.env := by rfl) (hpl : (backTo pos (starEach es X.env)).any (·.1) = false := by rfl) :
    PMk X (.Call (.Name x p) (e :: es) [] pos) (tMkO C sp [] ta) := by
  intro pins s σ H Q I h
  obtain ⟨nm, q, N, bs, sn, sub, ab, col, dd, k0, k1, k2, k3, k5, hC⟩ := T.cls
  refine wpAny_Call_Name_kw (ld_glob I hg hm ?_ hdb)
  refine PySem.W.callWith_K (h₀ := X.base) I.ok.mod.kin T.kC (thn (ha.run pos pins s σ H _ I h) ?_) he hpl
  rintro us s1 ⟨vs, H1, I1, r1, hz, q1⟩
  refine ⟨I1.kIn, ?_⟩
  obtain ⟨hp, g, dr, tk, os⟩ := s1
  have at_ : hp.objs.size ≤ hp.objs.size + 1 := Nat.le_succ _
  have hn : H1 (hp.objs.size + 1) = none := I1.hok.fresh at_
  have hq := q1 (hp.objs.size + 1) hn
  rw [List.append_nil] at hq
  let h2 : Heap := (hp.push (PySem.W.kdv_tup us)).push (PySem.HandSPX.excO C hp.objs.size)
  have kk : ∀ b o, hp.get? b = some o → h2.get? b = some o := fun b o z => Heap.get?_push_of_some _ (Heap.get?_push_of_some _ z)
  have hget : h2.get? (hp.objs.size + 1) = some (PySem.HandSPX.excO C hp.objs.size) := by
    show ((hp.push (PySem.W.kdv_tup us)).push (PySem.HandSPX.excO C hp.objs.size)).get? (hp.objs.size + 1) = _
    heap_get
  have I2 : Inv X pins σ (upd H1 (hp.objs.size + 1) (exo (hp.objs.size + 1) C none)) ⟨h2, g, dr, tk, os⟩ := I1.laid (t' := tk) (h' := h2) kk at_ (exo_ok hget)
  have r2 : Vals (V.ref (hp.objs.size + 1) :: vs) (Value.ref (hp.objs.size + 1) :: us) := .cons rfl r1
  have hl : ((Value.ref (hp.objs.size + 1) :: us) ++ []).length = ps.length := by
    have z := r2.length
    rw [F1.len _ _ _ _ hq] at z
    rw [List.append_nil]
    exact z.symm
  have few : us.length ≤ sizeLine := by
    rw [← Paired.length r1, sizeLine_eq]
    omega
  have hb1 := hb ⟨h2, g, dr, tk, os⟩ (Value.ref (hp.objs.size + 1) :: us) I2.kIn hl
  rw [List.append_nil] at hb1
  refine wpAny_call (PySem.HandSPX.call_own F.excBase_Exception exTail_same (I1.kIn _ _ hC) (PySem.W.looks_findIn I1.kIn iC) (fun self => PySem.W.bind_fn I1.kIn self tI) few
    (codeAny_mono (F1.run _ X.stack _ _ ⟨Value.ref (hp.objs.size + 1) :: us, []⟩ (Value.ref (hp.objs.size + 1) :: us) _ _ (fun _ _ _ => False) (hr.make C us []) (I2.env0.make C us []) hb1 r2 hq) ?_))
  rintro (er | fl) s' out
  · exact hx pins σ _ _ er s' I2 out
  · cases fl with
    | ret u =>
      obtain ⟨v, H2, os2, bare2, un2, hok2, rv, ev, d, fs, ea, ed, hd1, q2⟩ := out
      subst ev
      obtain ⟨h3, g2, d2, t2, os'⟩ := s'
      exact ⟨rv, mk_end (raises_own T.exC T.tyC) I1 at_ kk un2 hok2 os2 bare2 ea ed hd1 q2⟩
    | next => exact out.elim
    | brk => exact out.elim
    | cont => exact out.elim
/-! ### raise -/
/-- a class of one field, over Exception, and its __init__ -/
structure XcF (P : Program) (w : World) (K : PySem.W.Frag) (mg : Str → Option Value) (base : Heap) (x : Str) (C : Addr) (f : Str) : Prop where
  ox : OxE K C
  gl : mg x = some (.ref C)
  ini : ∃ fI fd, PySem.W.findIn K (.ref C) "__init__" = some (some (.ref fI)) ∧ PySem.W.typeIn K (.ref fI) = some (.type "function") ∧ ∃ ps, FnOk P w K mg base CX0 1 fI fd ps (spX C f) ∧ Binds K fd ps []
  fld : XfC K C
  no : PySem.W.findIn K (.ref C) f = some none
  me : PySem.W.exmOne K (.ref C) (.ref C) = some true
def sRaise (C : Addr) (f : Str) (a : EF) : SF := fun ρ S => (a ρ S).bind fun d S1 => .exc ⟨C, [(f, d)]⟩ S1
theorem upd_del {H : Hp} {a d : Addr} {o1 o2 o3 o4 : HO} (ha : H a = none) (hd : H d = none) (hne : d ≠ a) : upd (del (upd (upd (upd H a o1) d o2) a o3) a) d o4 = upd H d o4 := by
  funext b
  by_cases e : b = d
  · rw [e, upd_same, upd_same]
  · rw [upd_ne e, upd_ne e]
    by_cases e2 : b = a
    · rw [e2, del_same, ha]
    · rw [del_ne e2, upd_ne e2, upd_ne e, upd_ne e2]
theorem as_raise {X : Cx} {W : WX} {x f : Str} {C : Addr} {e : Expr} {Fa : EF} {k : Nat} {p pos cpos : Pos} (G : XcF X.prog X.w X.K X.mg X.base x C f) (hr : RoomG k X.A) (tk : Takes X W) (ha : AE X W e Fa) (h2 : 2 ≤ k := by decide) (hc : X.calm = true := by rfl) (hg : Gl X x := by rfl)
    (hdb : (x == ("__debug__" : Str)) = false := by decide) (he : starEach [e] X.env = (false, eval e X.env) :: starEach [] X.env := by rfl) (hpl : (backTo cpos (starEach [] X.env)).any (·.1) = false := by rfl) :
    AS X W (.Raise (some (.Call (.Name x p) [e] [] cpos)) none pos) (sRaise C f Fa) := by
  obtain ⟨fI, fd, iC, tI, ps, F1, hb⟩ := G.ini
  refine ps_mono (ps_raise hc tk (pmk_x G.ox iC tI F1 (hr.rm.mono h2) hb pass0 hg G.gl (pa_cons ha pa_nil (hs := he)) hdb he hpl)) fun D' σ H ⟨φ, ρ, S, rh, rl, fi⟩ => ?_
  refine ⟨φ, ρ, S, rh, rl, (Fin.bindS trivial fi).imp ?_⟩
  rintro v H1 ⟨φ1, S1, d, e1, rh1, rv1, f1⟩
  refine ⟨by show 1 ≤ 1000; decide, fun a na => ⟨a, v, rfl, upd_same, fun dx ndx ne => ⟨rfl, dx, [(f, v)], upd_same, ?_, ?_, ?_⟩⟩⟩
  · rw [upd_ne ne, upd_same]
  · rw [upd_ne ne] at ndx
    exact ndx
  · have nd1 : H1 dx = none := by rw [upd_ne ne] at ndx; exact ndx
    rw [upd_del na nd1 ne]
    have x1 : Ext X.kw φ1 H1 φ1 (upd H1 dx (.xd [(f, v)])) := Ext.new nd1
    exact f1 φ1 _ _ _ σ x1 (rh1.new nd1) ⟨rfl, .inr ⟨dx, _, rfl, upd_same, ⟨v, [], rfl, rv1.ext x1, rfl⟩⟩⟩
/-! ### try: body / except x as n: return (const, n.f) -/
/-- in a try's body: where it is raised -/
def sX (st : SF) : SF := fun ρ S => match st ρ S with
  | .exc x S' => .ok (.xc x ρ) S'
  | r => r
theorem FinX {K : KW} {W : WX} {φ : List Addr} {H : Hp} {σ : St} {ρ : Env} {r : Res D} {g : D → Store → Res Out} {E : Ends} (rl : RL K φ H σ ρ) (h : FinS K W φ H (match r.bind g with | .exc x S' => .ok (.xc x ρ) S' | r => r) E) (hg : ∀ d S, ∃ o S', g d S = .ok o S' ∨ g d S = .stuck) :
    Fin K W φ H σ r fun v H1 => Aft K φ H v H1 fun φ1 d S1 => FinS K W φ1 H1 (g d S1) E := by
  cases r with
  | ok d S =>
    intro φ' H' v x y z
    refine ⟨φ', S, d, x, y, z, ?_⟩
    rw [Res.bind_ok] at h
    obtain ⟨o, S', e | e⟩ := hg d S
    · rw [e] at h ⊢; exact FinS.ext h x
    · rw [e] at h ⊢; exact h
  | exc xx S => exact fun φ' H' cv dx x y z => h φ' H' cv dx σ x y z (rl.ext x)
  | stuck => exact h
theorem as_exprX {X : Cx} {W : WX} {e : Expr} {Fe : EF} {pos : Pos} (he : AE X W e Fe) (hs : swapsWith e none pos.line X.env = pure false := by rfl) : AS X W (.Expr e pos) (sX (sExpr Fe)) := by
  refine ps_mono (ps_expr he hs) fun D σ H ⟨φ, ρ, S, rh, rl, f⟩ => ⟨φ, ρ, S, rh, rl, (FinX rl f fun d S => ⟨_, _, .inl rfl⟩).imp ?_⟩
  rintro v H1 ⟨φ1, S1, d, e1, rh1, rv1, f1⟩
  exact FinS.nx_of f1 rh1 (rl.ext e1)
def sTryR (i : Nat) (C : Addr) (f : Str) (dc : D) (ps : List Addr) (body : SF) : SF := fun ρ S => match body ρ S with
  | .ok (.xc x ρ') S' => if x.cls = C then (match fGet x.fs f with
      | some d => if i < ρ'.length then .ok (.ret (.tup [dc, d])) S' else .stuck
      | none => .stuck)
    else if x.cls ∈ ps then .exc x S' else .stuck
  | .exc _ _ => .stuck
  | r => r
theorem as_tryR {X : Cx} {W : WX} {x n y f : Str} {C : Addr} {i kk : Nat} {dc : D} {body : List Stmt} {Fb : SF} {np p1 p2 p3 p4 p5 p6 pos : Pos} (ps : List Addr) (G : XcF X.prog X.w X.K X.mg X.base x C f) (hps : ∀ c ∈ ps, PySem.W.exmOne X.K (.ref c) (.ref C) = some false) (cn : Cn X.K X.mg y dc) (hN : X.N.Nodup) (tk : Takes X W)
    (hb : ∀ (W' : WX) (pn : List (Addr × Obj)) (xe : Value → Shared → Prop), Takes (X.tr pn xe) W' → PassesOwn (model X.prog X.w) X.A X.env xe → ASs (X.tr pn xe) W' body Fb)
    (hs : X.stack = X.env :: X.outer := by rfl) (hf : X.env.frame = some X.env.locals := by rfl) (hi : X.N[i]? = some n := by rfl) (hln : X.env.kindOf n = some .local := by rfl) (hgx : Gl X x := by rfl) (hdx : (x == ("__debug__" : Str)) = false := by decide)
    (hgy : Gl X y := by rfl) (hdy : (y == ("__debug__" : Str)) = false := by decide) (hdn : (n == ("__debug__" : Str)) = false := by decide) (hcn : (n == ("__classdict__" : Str)) = false := by decide) (hab : attributeBase (.Name n p2) f X.env (eval (.Name n p2) X.env) = eval (.Name n p2) X.env := by rfl) :
    AS X W (.Try body [.ExceptHandler (some (.Name x np)) (some n) [.Return (some (.Tuple [.Name y p1, .Attribute (.Name n p2) f p3] kk p4)) p5] p6] [] [] pos) (sTryR i C f dc ps Fb) := by
  obtain ⟨cu, cv, c1, c2, c3⟩ := cn
  refine ps_mono (ps_try_as (i := i) (tb := fun W' => tFS X.kw W' Fb) hs hf hN hi hln ⟨hgx, hdx, .inl G.gl⟩ tk (fun W' pn xe tk' hp => hb W' pn xe tk' hp) (fun a oe cls d pn hz hff => pss_one (ps_ret (pe_tup (pa_cons (pe_glob (X := X.suite a ((a, oe) :: pn)) (v := cv) hgy c1 c2 hdy) (pa_cons (pe_xf G.fld G.no hz hff (pe_var (X := X.suite a ((a, oe) :: pn)) (i := i) hi (.inl hln) (hd := hdn) (hcd := hcn)) hab) pa_nil)))))) fun D' σ H ⟨φ, ρ, S, rh, rl, fi⟩ => ⟨φ, ρ, S, rh, rl, ?_⟩
  unfold sTryR at fi
  cases z : Fb ρ S with
  | stuck => rw [z] at fi; exact fi.elim
  | exc xx S1 => rw [z] at fi; exact fi.elim
  | ok o S1 =>
    rw [z] at fi
    cases o with
    | nx _ => exact fi
    | ret _ => exact fi
    | bk _ => exact fi
    | ct _ => exact fi
    | xc xx ρ1 =>
      intro φ1 H1 cls d σ1 x1 rh1 rx rl1
      simp only at fi
      by_cases hC : xx.cls = C
      · rw [if_pos hC] at fi
        obtain ⟨ecl, rx⟩ := rx
        rw [hC] at ecl
        subst ecl
        refine ⟨true, G.me, fun _ a na => ?_, (fun q => by cases q)⟩
        cases zf : fGet xx.fs f with
        | none => rw [zf] at fi; exact fi.elim
        | some df =>
          rw [zf] at fi
          simp only at fi
          split at fi
          · rename_i hlen
            obtain ⟨e0, _⟩ | ⟨dd, vs, ed, hd, rf⟩ := rx
            · rw [e0] at zf; cases zf
            · obtain ⟨v, lv, rv⟩ := (rf.get f).1 df zf
              have sl : (List.set σ1 i (some (V.ref a)))[i]? = some (some (.ref a)) := List.getElem?_set_self (by rw [rl1.1]; exact hlen)
              refine ⟨.ref a, sl, rfl, rfl, dd, vs, v, ed, hd, lv, by show 2 ≤ sizeLine; decide, fun p np => ?_⟩
              have x2 : Ext X.kw φ1 H1 φ1 (upd H1 p (.tup [cv, v])) := Ext.new np
              exact fi φ1 _ _ (x1.trans x2) (rh1.new np) (rv_tup (.inl (.inl upd_same)) (.cons (c3 X.w φ1 _) (.cons (rv.ext x2) .nil)))
          · exact fi.elim
      · rw [if_neg hC] at fi
        split at fi
        · rename_i hm
          obtain ⟨ecl, _⟩ := id rx
          refine ⟨false, ?_, (fun q => by cases q), fun _ => fi φ1 H1 cls d σ1 x1 rh1 rx⟩
          rw [ecl]
          exact hps _ hm
        · exact fi.elim
end Al

set_option Elab.async false
set_option linter.all false
set_option maxRecDepth 100000
set_option maxHeartbeats 2000000
/-! Al: more of dicts. -/
namespace Al
open PySem PySem.Spec PyProof.Rows L2
/-! ### read, walked or not -/
def rdAt (S : Store) (n : Nat) : Option (List (List Nat × D)) := match S[n]? with
  | some (.dct kvs) => some kvs
  | some (.ldct kvs) => some kvs
  | _ => none
theorem rdAt_ok {K : KW} {φ : List Addr} {H : Hp} {S : Store} {n : Nat} {kvs : List (List Nat × D)} {v : V} (rh : RH K φ H S) (e : rdAt S n = some kvs) (r : RV K φ H (.ref n) v) : ∃ p vs, v = .ref p ∧ φ[n]? = some p ∧ Rd H p (.dK vs) ∧ RKs K φ H kvs vs := by
  unfold rdAt at e
  split at e
  · rename_i ys e1
    cases e
    obtain ⟨p, rfl, g, vs, h1, rs⟩ := rh.obj e1 r
    exact ⟨p, vs, rfl, g, .inl h1, rs⟩
  · rename_i ys e1
    cases e
    obtain ⟨p, rfl, g, od, vs, h1, rs⟩ := rh.obj e1 r
    exact ⟨p, vs, rfl, g, .inr ⟨od, h1⟩, rs⟩
  · cases e
def rixO : F2
  | .ref n, .str k, S => ((rdAt S n).bind fun kvs => dGet kvs k).map fun d => (d, S)
  | _, _, _ => none
def rinB (a b : D) (S : Store) : Option Bool := match a, b with
  | .str k, .ref n => (rdAt S n).map fun kvs => (dGet kvs k).isSome
  | _, _ => none
def rinO : F2 := fun a b S => (rinB a b S).map fun k => (.bl k, S)
def rnotInO : F2 := fun a b S => (rinB a b S).map fun k => (.bl (!k), S)
section
variable {X : Cx} {W : WX} {o i f value : Expr} {Fo Fi Ff Fv : EF} {pos pos' apos cpos : Pos}
theorem ae_rget (hu : X.A.units + 1 < cLine) (ho : AE X W o Fo) (hi : AE X W i Fi) (hs : NoSl i := by exact fun _ _ => rfl) : AE X W (.Subscript o i pos) (eOp rixO Fo Fi) := by
  refine pe_mono (pe_dget hu ho hi hs) fun σ H Q h => ?_
  refine (two_parts h).imp fun x H1 h1 => h1.imp fun y H2 ⟨φ, S, dx, dy, rh, rx, ry, fi⟩ => ?_
  obtain ⟨d, S', e, k⟩ := fin_of fi
  unfold rixO at e
  split at e
  · obtain ⟨d', e1, e2⟩ := mapOpt e
    cases e2
    obtain ⟨kvs, e3, e4⟩ := bindO e1
    obtain ⟨p, vs, rfl, g, h1, r⟩ := rdAt_ok rh e3 rx
    obtain ⟨v, e5, rv⟩ := (r.get _).1 _ e4
    exact ⟨p, v, rfl, .inl ⟨vs, .inr _, h1, by rw [ry.str_]; rfl, e5.symm⟩, k φ H2 v .refl rh rv⟩
  · cases e
theorem rin_run {K : KW} {φ : List Addr} {H : Hp} {S : Store} {a b : D} {x y : V} {t : Bool} (rh : RH K φ H S) (ra : RV K φ H a y) (rb : RV K φ H b x) (e : rinB a b S = some t) : ∃ p ov, x = .ref p ∧ DGet H p y ov ∧ ov.isSome = t := by
  unfold rinB at e
  split at e
  · obtain ⟨kvs, e1, e2⟩ := mapOpt e
    obtain ⟨p, vs, rfl, g, h1, r⟩ := rdAt_ok rh e1 rb
    refine ⟨p, _, rfl, .inl ⟨vs, .inr _, h1, by rw [ra.str_]; rfl, rfl⟩, ?_⟩
    rw [← e2]
    rename_i k _
    cases z : dGet kvs k with
    | none => rw [(r.get k).2 z]; rfl
    | some d => obtain ⟨v, e5, _⟩ := (r.get k).1 d z; rw [e5]; rfl
  · cases e
theorem ae_rin (hu : X.A.units + 1 < cLine) (hi : AE X W i Fi) (ho : AE X W o Fo) (h1 : behindInMarks .In o = false := by rfl) : AE X W (.Compare i [.In] [o] pos) (eOp rinO Fi Fo) := by
  refine pe_mono (pe_cmp (pc_din hu hi ho) h1) fun σ H Q h => ?_
  refine (two_parts h).imp fun y H1 h1 => h1.imp fun x H2 ⟨φ, S, dx, dy, rh, rx, ry, fi⟩ => ?_
  obtain ⟨d, S', e, k⟩ := fin_of fi
  obtain ⟨t, e1, e2⟩ := mapOpt e
  cases e2
  obtain ⟨p, ov, q1, q2, q3⟩ := rin_run rh rx ry e1
  exact ⟨p, ov, q1, q2, by rw [q3]; exact k φ H2 _ .refl rh rv_bl⟩
theorem ae_rnotin (hu : X.A.units + 1 < cLine) (hi : AE X W i Fi) (ho : AE X W o Fo) (h1 : behindInMarks .NotIn o = false := by rfl) : AE X W (.Compare i [.NotIn] [o] pos) (eOp rnotInO Fi Fo) := by
  refine pe_mono (pe_cmp (pc_dnotin hu hi ho) h1) fun σ H Q h => ?_
  refine (two_parts h).imp fun y H1 h1 => h1.imp fun x H2 ⟨φ, S, dx, dy, rh, rx, ry, fi⟩ => ?_
  obtain ⟨d, S', e, k⟩ := fin_of fi
  obtain ⟨t, e1, e2⟩ := mapOpt e
  cases e2
  obtain ⟨p, ov, q1, q2, q3⟩ := rin_run rh rx ry e1
  exact ⟨p, ov, q1, q2, by rw [q3]; exact k φ H2 _ .refl rh rv_bl⟩
theorem at_rin (hu : X.A.units + 1 < cLine) (hi : AE X W i Fi) (ho : AE X W o Fo) (h1 : behindInMarks .In o = false := by rfl) : AT X W (.Compare i [.In] [o] pos) (tOf (eOp rinO Fi Fo)) := by
  refine pt_mono (pt_cmp (pc_din hu hi ho) h1) fun σ H Q h => ?_
  refine (two_parts (test_run h)).imp fun y H1 h1 => h1.imp fun x H2 ⟨φ, S, dx, dy, rh, rx, ry, fi⟩ => ?_
  obtain ⟨d, S', e, k⟩ := fin_of fi
  obtain ⟨t, e1, e2⟩ := mapOpt e
  cases e2
  obtain ⟨p, ov, q1, q2, q3⟩ := rin_run rh rx ry e1
  exact ⟨p, ov, q1, q2, by rw [q3]; exact k φ H2 _ .refl rh rv_bl⟩
theorem at_rnotin (hu : X.A.units + 1 < cLine) (hi : AE X W i Fi) (ho : AE X W o Fo) (h1 : behindInMarks .NotIn o = false := by rfl) : AT X W (.Compare i [.NotIn] [o] pos) (tOf (eOp rnotInO Fi Fo)) := by
  refine pt_mono (pt_cmp (pc_dnotin hu hi ho) h1) fun σ H Q h => ?_
  refine (two_parts (test_run h)).imp fun y H1 h1 => h1.imp fun x H2 ⟨φ, S, dx, dy, rh, rx, ry, fi⟩ => ?_
  obtain ⟨d, S', e, k⟩ := fin_of fi
  obtain ⟨t, e1, e2⟩ := mapOpt e
  cases e2
  obtain ⟨p, ov, q1, q2, q3⟩ := rin_run rh rx ry e1
  exact ⟨p, ov, q1, q2, by rw [q3]; exact k φ H2 _ .refl rh rv_bl⟩
end
/-! ### d.get(k), d.get(k, x), d.pop(k, x) -/
def isDc (x : D) (S : Store) : Bool := match x with
  | .ref n => (rdAt S n).isSome
  | _ => false
def getO (x y z : D) (S : Store) : Option (D × Store) := match x, y with
  | .ref n, .str k => (rdAt S n).map fun kvs => ((dGet kvs k).getD z, S)
  | _, _ => none
def popO (x y z : D) (S : Store) : Option (D × Store) := match x, y with
  | .ref n, .str k => (dctAt S n).map fun kvs => match dGet kvs k with
    | some v => (v, S.set n (.dct (dDrop kvs k)))
    | none => (z, S)
  | _, _ => none
def eGet1 (o k : EF) : EF := fun ρ S => (o ρ S).bind fun x S1 => if isDc x S1 = true then (k ρ S1).bind fun y S2 => .of (getO x y .non S2) else .stuck
def eGet2 (g : D → D → D → Store → Option (D × Store)) (o k z : EF) : EF := fun ρ S => (o ρ S).bind fun x S1 => if isDc x S1 = true then (k ρ S1).bind fun y S2 => (z ρ S2).bind fun w S3 => .of (g x y w S3) else .stuck
section
variable {X : Cx} {W : WX} {o e f : Expr} {Fo Fe Ff : EF} {apos cpos : Pos}
theorem isDc_ok {K : KW} {φ : List Addr} {H : Hp} {S : Store} {x : D} {v : V} (rh : RH K φ H S) (h : isDc x S = true) (r : RV K φ H x v) : ∃ a, v = .ref a ∧ IsD H a := by
  unfold isDc at h
  split at h
  · obtain ⟨kvs, e⟩ := Option.isSome_iff_exists.mp h
    obtain ⟨p, vs, rfl, g, h1, _⟩ := rdAt_ok rh e r
    exact ⟨p, rfl, .inl ⟨vs, h1⟩⟩
  · cases h
theorem getO_ok {K : KW} {φ : List Addr} {H : Hp} {S S' : Store} {x y z d : D} {vx vy vz : V} (rh : RH K φ H S) (rx : RV K φ H x vx) (ry : RV K φ H y vy) (rz : RV K φ H z vz) (e : getO x y z S = some (d, S')) : ∃ a ov, vx = .ref a ∧ DGet H a vy ov ∧ RV K φ H d (ov.getD vz) ∧ S' = S := by
  unfold getO at e
  split at e
  · rename_i n k
    obtain ⟨kvs, e1, e2⟩ := mapOpt e
    cases e2
    obtain ⟨p, vs, rfl, g, h1, r⟩ := rdAt_ok rh e1 rx
    refine ⟨p, valV vs (.inr (toS k)), rfl, .inl ⟨vs, .inr _, h1, by rw [ry.str_]; rfl, rfl⟩, ?_, rfl⟩
    cases zz : dGet kvs k with
    | none => rw [(r.get k).2 zz]; exact rz
    | some d => obtain ⟨v, e5, rv⟩ := (r.get k).1 d zz; rw [e5]; exact rv
  · cases e
theorem ae_get1 (hu : X.A.units + 1 < cLine) (ho : AE X W o Fo) (he : AE X W e Fe) (m : M1 X o "get" apos e cpos := by exact ⟨rfl, rfl, rfl, rfl⟩) : AE X W (.Call (.Attribute o "get" apos) [e] [] cpos) (eGet1 Fo Fe) := by
  refine pe_mono (pe_dget1 hu ho he m) fun σ H Q ⟨φ, ρ, S, rh, rl, fi⟩ => ⟨φ, ρ, S, rh, rl, (Fin.bind fi).imp ?_⟩
  rintro v H1 ⟨φ1, S1, d1, x1, rh1, rv1, f1⟩
  split at f1
  · rename_i hd
    obtain ⟨a, rfl, isd⟩ := isDc_ok rh1 hd rv1
    refine ⟨a, rfl, isd, φ1, ρ, S1, rh1, rl.ext x1, (Fin.bind f1).imp ?_⟩
    rintro y H2 ⟨φ2, S2, d2, x2, rh2, rv2, f2⟩
    obtain ⟨d, S', eq, k⟩ := fin_of f2
    obtain ⟨a', ov, e1, e2, e3, rfl⟩ := getO_ok rh2 (rv1.ext x2) rv2 rv_non eq
    cases e1
    exact ⟨ov, e2, k φ2 H2 _ .refl rh2 e3⟩
  · exact f1.elim
theorem ae_get2 (hu : X.A.units + 1 < cLine) (ho : AE X W o Fo) (he : AE X W e Fe) (hf : AE X W f Ff) (m : M2 X o "get" apos e f cpos := by exact ⟨rfl, rfl, rfl, rfl⟩) : AE X W (.Call (.Attribute o "get" apos) [e, f] [] cpos) (eGet2 getO Fo Fe Ff) := by
  refine pe_mono (pe_dget2 hu ho he hf m) fun σ H Q ⟨φ, ρ, S, rh, rl, fi⟩ => ⟨φ, ρ, S, rh, rl, (Fin.bind fi).imp ?_⟩
  rintro v H1 ⟨φ1, S1, d1, x1, rh1, rv1, f1⟩
  split at f1
  · rename_i hd
    obtain ⟨a, rfl, isd⟩ := isDc_ok rh1 hd rv1
    refine ⟨a, rfl, isd, φ1, ρ, S1, rh1, rl.ext x1, (Fin.bind f1).imp ?_⟩
    rintro y H2 ⟨φ2, S2, d2, x2, rh2, rv2, f2⟩
    refine ⟨φ2, ρ, S2, rh2, (rl.ext x1).ext x2, (Fin.bind f2).imp ?_⟩
    rintro z H3 ⟨φ3, S3, d3, x3, rh3, rv3, f3⟩
    obtain ⟨d, S', eq, k⟩ := fin_of f3
    obtain ⟨a', ov, e1, e2, e3, rfl⟩ := getO_ok rh3 ((rv1.ext x2).ext x3) (rv2.ext x3) rv3 eq
    cases e1
    exact ⟨ov, e2, k φ3 H3 _ .refl rh3 e3⟩
  · exact f1.elim
theorem ae_pop2 (ho : AE X W o Fo) (he : AE X W e Fe) (hf : AE X W f Ff) (m : M2 X o "pop" apos e f cpos := by exact ⟨rfl, rfl, rfl, rfl⟩) : AE X W (.Call (.Attribute o "pop" apos) [e, f] [] cpos) (eGet2 popO Fo Fe Ff) := by
  refine pe_mono (pe_dpop2 ho he hf m) fun σ H Q ⟨φ, ρ, S, rh, rl, fi⟩ => ⟨φ, ρ, S, rh, rl, (Fin.bind fi).imp ?_⟩
  rintro v H1 ⟨φ1, S1, d1, x1, rh1, rv1, f1⟩
  split at f1
  · rename_i hd
    obtain ⟨a, rfl, isd⟩ := isDc_ok rh1 hd rv1
    refine ⟨a, rfl, isd, φ1, ρ, S1, rh1, rl.ext x1, (Fin.bind f1).imp ?_⟩
    rintro y H2 ⟨φ2, S2, d2, x2, rh2, rv2, f2⟩
    refine ⟨φ2, ρ, S2, rh2, (rl.ext x1).ext x2, (Fin.bind f2).imp ?_⟩
    rintro z H3 ⟨φ3, S3, d3, x3, rh3, rv3, f3⟩
    obtain ⟨d, S', eq, k⟩ := fin_of f3
    unfold popO at eq
    split at eq
    · rename_i n kk
      obtain ⟨kvs, e1, e2⟩ := mapOpt eq
      obtain ⟨p, vs, ep, g, h1, r⟩ := dctAt_ok rh3 e1 ((rv1.ext x2).ext x3)
      cases ep
      refine ⟨vs, .inr (toS kk), h1, by rw [rv2.str_]; rfl, fun w hw => ?_, fun hw => ?_⟩
      · cases zz : dGet kvs kk with
        | none => rw [(r.get kk).2 zz] at hw; cases hw
        | some dv =>
          rw [zz] at e2
          cases e2
          obtain ⟨w', e5, rw'⟩ := (r.get kk).1 _ zz
          rw [e5] at hw
          cases hw
          obtain ⟨x4, rh4⟩ := set_dct rh3 g h1 (r.drop kk)
          exact k φ3 _ w x4 rh4 (rw'.ext x4)
      · cases zz : dGet kvs kk with
        | some dv =>
          obtain ⟨w', e5, rw'⟩ := (r.get kk).1 _ zz
          rw [e5] at hw
          cases hw
        | none =>
          rw [zz] at e2
          cases e2
          exact k φ3 H3 _ .refl rh3 rv3
    · cases eq
  · exact f1.elim
end
/-! ### len(d), dict(d), list(d), sorted(d) -/
def lenDF : FN
  | [.ref n], S => (rdAt S n).map fun kvs => (.int (kvs.length : Nat), S)
  | _, _ => none
def dictF : FN
  | [.ref n], S => (rdAt S n).map fun kvs => (.ref S.length, S ++ [.dct kvs])
  | _, _ => none
def listDF : FN
  | [.ref n], S => (rdAt S n).map fun kvs => (.ref S.length, S ++ [.lst (kvs.map fun p => .str p.1)])
  | _, _ => none
def sortedDF : FN
  | [.ref n], S => (rdAt S n).bind fun kvs => if kvs.length < 64 then some (.ref S.length, S ++ [.lst ((sortT (kvs.map (·.1))).map .str)]) else none
  | _, _ => none
section
variable {X : Cx}
theorem RKs.keys {K : KW} {φ : List Addr} {H : Hp} : ∀ {ps : List (List Nat × D)} {qs : List (Key × V)}, RKs K φ H ps qs → qs.map (·.1) = (ps.map fun p => toS p.1).map Sum.inr
  | [], qs, h => by rw [show qs = [] from h]; rfl
  | p :: ps, qs, h => by
    obtain ⟨x, r, rfl, ⟨h0, _⟩, h2⟩ := h
    rw [List.map_cons, h0, RKs.keys h2]
    rfl
theorem call_lenDA : CallA X (.builtin "len") lenDF := by
  intro pins s σ H xs us Q I r h
  obtain ⟨φ, S, ds, d, S', rh, rd, e, k⟩ := h
  unfold lenDF at e
  split at e
  · obtain ⟨kvs, e1, e2⟩ := mapOpt e
    cases e2
    obtain ⟨v, rfl, rv⟩ := rvs1 rd
    obtain ⟨p, vs, rfl, g, h1, rk⟩ := rdAt_ok rh e1 rv
    obtain ⟨u, rfl, ru⟩ := vals1 r
    cases ru
    refine d_len I h1 fun t s' I' => ⟨.int vs.length, H, I', ⟨t, rfl⟩, ?_⟩
    rw [← rk.length]
    exact k φ H _ .refl rh rv_int
  · cases e
theorem call_dictA : CallA X (.type "dict") dictF := by
  intro pins s σ H xs us Q I r h
  obtain ⟨φ, S, ds, d, S', rh, rd, e, k⟩ := h
  unfold dictF at e
  split at e
  · obtain ⟨kvs, e1, e2⟩ := mapOpt e
    cases e2
    obtain ⟨v, rfl, rv⟩ := rvs1 rd
    obtain ⟨p, vs, rfl, g, h1, rk⟩ := rdAt_ok rh e1 rv
    refine L2.call_dictD pins s σ H _ us Q I r ⟨p, vs, rfl, h1, fun q nq => ?_⟩
    obtain ⟨x, a, b⟩ := new_dct rh rk nq
    exact k _ _ _ x a b
  · cases e
theorem new_lst {K : KW} {φ : List Addr} {H : Hp} {S : Store} {xs : List D} {vs : List V} {q : Addr} (rh : RH K φ H S) (r : RVs K φ H xs vs) (hq : H q = none) :
    Ext K φ H (φ ++ [q]) (upd H q (.lst vs)) ∧ RH K (φ ++ [q]) (upd H q (.lst vs)) (S ++ [.lst xs]) ∧ RV K (φ ++ [q]) (upd H q (.lst vs)) (.ref S.length) (.ref q) := by
  have x := Ext.num (K := K) (φ := φ) (o := HO.lst vs) hq
  exact ⟨x, rh.alloc (x := .lst xs) (o := HO.lst vs) hq ⟨_, upd_same, r.ext x⟩, rv_ref (by rw [← rh.len]; simp)⟩
theorem call_listDA (hc : X.calm = true) : CallA X (.type "list") listDF := by
  intro pins s σ H xs us Q I r h
  obtain ⟨φ, S, ds, d, S', rh, rd, e, k⟩ := h
  unfold listDF at e
  split at e
  · obtain ⟨kvs, e1, e2⟩ := mapOpt e
    cases e2
    obtain ⟨v, rfl, rv⟩ := rvs1 rd
    obtain ⟨p, vs, rfl, g, h1, rk⟩ := rdAt_ok rh e1 rv
    refine L2.call_listD hc pins s σ H _ us Q I r ⟨p, vs, rfl, h1, fun q nq => ?_⟩
    have ek : (vs.map fun kv => kV kv.1) = ((kvs.map (·.1)).map toS).map V.str := by
      have := rk.keys
      rw [show (vs.map fun kv => kV kv.1) = (vs.map (·.1)).map kV by rw [List.map_map]; rfl, this]
      simp [List.map_map, Function.comp_def, kV]
    rw [ek]
    have rl : RVs X.kw φ H (kvs.map fun p => .str p.1) (((kvs.map (·.1)).map toS).map V.str) := by
      have := RVs.of_strs (K := X.kw) (φ := φ) (H := H) (kvs.map (·.1))
      simpa [List.map_map, Function.comp_def] using this
    obtain ⟨x, a, b⟩ := new_lst rh rl nq
    exact k _ _ _ x a b
  · cases e
theorem call_sortedDA (hc : X.calm = true) : CallA X (.builtin "sorted") sortedDF := by
  intro pins s σ H xs us Q I r h
  obtain ⟨φ, S, ds, d, S', rh, rd, e, k⟩ := h
  unfold sortedDF at e
  split at e
  · obtain ⟨kvs, e1, e2⟩ := bindO e
    split at e2
    · cases e2
      rename_i hl
      obtain ⟨v, rfl, rv⟩ := rvs1 rd
      obtain ⟨p, vs, rfl, g, h1, rk⟩ := rdAt_ok rh e1 rv
      refine L2.call_sortedD hc pins s σ H _ us Q I r ⟨p, vs, kvs.map fun p => toS p.1, rfl, h1, rk.keys, by simpa using hl, fun ys q perm srt nq => ?_⟩
      have ey : ys = (sortT (kvs.map (·.1))).map toS := sortT_is (l := kvs.map (·.1)) (by simpa [List.map_map, Function.comp_def] using perm) srt
      rw [ey]
      obtain ⟨x, a, b⟩ := new_lst (xs := (sortT (kvs.map (·.1))).map .str) rh (RVs.of_strs _) nq
      exact k _ _ _ x a b
    · cases e2
  · cases e
end
end Al

set_option Elab.async false
set_option linter.all false
set_option maxRecDepth 100000
set_option maxHeartbeats 2000000
/-! Al: dict comprehensions, walks over dicts. -/
namespace Al
open PySem PySem.Spec PyProof.Rows L2
/-! ### {k: v for t in it if ..}, texts as keys -/
def dcF (nxt : Nat → Store → Option (Option D)) (t : Tg) (ti : TF) (k v : EF) (n : Nat) : Nat → Nat → Env → Store → Res D
  | 0, _, _, _ => .stuck
  | m + 1, i, ρ, S => match nxt i S with
    | none => .stuck
    | some none => .ok (.ref n) S
    | some (some d) => match tgD t d ρ with
      | none => .stuck
      | some ρ1 => (ti ρ1 S).quiet.bind fun b S1 => if b = true then (k ρ1 S1).quiet.bind fun y S2 => (v ρ1 S2).quiet.bind fun z S3 => match y, S3[n]? with
            | .str ks, some (.dct acc) => if acc.length < lim then dcF nxt t ti k v n m (i + 1) ρ (S3.set n (.dct (dPut acc ks z))) else .stuck
            | _, _ => .stuck
          else dcF nxt t ti k v n m (i + 1) ρ S1
def eDc (it : IF) (t : Tg) (ti : TF) (k v : EF) (vs : List Nat) : EF := fun ρ S => (it ρ S).bind fun src S1 => dcF src.nxt t ti k v S1.length src.fuel 0 (wipeE ρ vs) (S1 ++ [.dct []])
theorem wipe_wipe (σ : St) (vs : List Nat) : L2.wipe (L2.wipe σ vs) vs = L2.wipe σ vs := by
  have key : ∀ (us : List Nat) (τ : St), (∀ i ∈ us, ∀ v, τ[i]? = some v → v = none) → L2.wipe τ us = τ := by
    intro us
    induction us with
    | nil => intro τ _; rfl
    | cons a us ih =>
      intro τ hτ
      unfold L2.wipe
      rw [ih τ fun i hi => hτ i (List.mem_cons_of_mem _ hi)]
      apply List.ext_getElem?
      intro j
      by_cases hj : a = j
      · subst hj
        by_cases hl : a < τ.length
        · rw [List.getElem?_set_self hl]
          have := hτ a List.mem_cons_self τ[a] (List.getElem?_eq_getElem hl)
          rw [List.getElem?_eq_getElem hl, this]
        · rw [List.getElem?_eq_none (by simpa using hl), List.getElem?_eq_none (by omega)]
      · rw [List.getElem?_set_ne hj]
  refine key vs _ fun i hi v hv => ?_
  cases v with
  | none => rfl
  | some w => exact absurd hi (wipe_some hv).2
section
variable {X : Cx} {W : WX}
theorem dc_run {σ : St} {H : Hp} {Q : VK} {Fi : IF} {t : Tg} {Ti : TF} {Fk Fv : EF} {vs : List Nat} {K : KW} (ht : ∀ i ∈ t.slots, i ∈ vs) (h : tF K W (eDc Fi t Ti Fk Fv vs) σ H Q) :
    tDc (tFI K W Fi) (tgV K t) (tFT K W0 Ti) (tF K W0 Fk) (tF K W0 Fv) vs σ H Q := by
  obtain ⟨φ, ρ, S, rh, rl, f⟩ := h
  refine ⟨φ, ρ, S, rh, rl, ?_⟩
  unfold eDc at f
  cases z : Fi ρ S with
  | stuck => rw [z] at f; exact f.elim
  | exc x S1 => rw [z] at f; exact f
  | ok src S1 =>
    rw [z] at f
    intro φ0 H0 J x0 rh0 ok Dd hD
    have f : Fin K W φ H σ (dcF src.nxt t Ti Fk Fv S1.length src.fuel 0 (wipeE ρ vs) (S1 ++ [.dct []])) Q := f
    have x1 := Ext.num (K := K) (φ := φ0) (o := HO.dK []) hD
    have rh1 := rh0.alloc (x := .dct []) (o := HO.dK []) hD ⟨[], upd_same, rfl⟩
    refine ⟨fun i m H1 => ∃ φ1 S2, Ext K (φ0 ++ [Dd]) (upd H0 Dd (.dK [])) φ1 H1 ∧ RH K φ1 H1 S2 ∧ Fin K W φ1 H1 σ (dcF src.nxt t Ti Fk Fv S1.length m i (wipeE ρ vs) S2) Q, ⟨src.fuel, _, _, .refl, rh1, (f.ext x0).ext x1⟩, ?_⟩
    rintro i m H1 ⟨φ1, S2, x2, rh2, f1⟩
    have gD : φ1[S1.length]? = some Dd := pre_get x2.pre (by rw [← rh0.len]; simp)
    cases m with
    | zero => exact f1.elim
    | succ n =>
      have o := ok i φ1 H1 S2 (x1.trans x2) rh2
      unfold dcF at f1
      split at f1
      · exact f1.elim
      · rename_i e
        exact .inl ⟨o.2 e, f1.ok_of rh2 (rv_ref gD)⟩
      · rename_i d e
        have o := o.1 d e
        refine .inr ⟨o.1, fun H'' => ∃ φ1 S2, Ext K (φ0 ++ [Dd]) (upd H0 Dd (.dK [])) φ1 H'' ∧ RH K φ1 H'' S2 ∧ Fin K W φ1 H'' σ (dcF src.nxt t Ti Fk Fv S1.length n (i + 1) (wipeE ρ vs) S2) Q, fun H'' h => ⟨n, Nat.lt_succ_self n, h⟩, fun xv H2 y => ?_⟩
        obtain ⟨x3, rh3, rv3⟩ := o.2 xv H2 y
        split at f1
        · exact f1.elim
        · rename_i ρ2 er
          have rlw : RL K φ1 H2 (L2.wipe σ vs) (wipeE ρ vs) := ((((rl.ext x0).ext x1).ext x2).ext x3).wipe vs
          refine tgV_run er rv3 rlw fun σ3 rl3 hw => ⟨?_, ?_⟩
          · rw [hw vs ht, wipe_wipe]
          · refine ⟨φ1, ρ2, S2, rh3, rl3, ?_⟩
            have f2 := f1.ext x3
            cases zt : Ti ρ2 S2 with
            | stuck => rw [zt] at f2; exact f2.elim
            | exc xx S3 => rw [zt] at f2; exact f2.elim
            | ok b S3 =>
              rw [zt] at f2
              intro φ4 H4 x4 rh4
              cases b with
              | false =>
                rw [if_neg Bool.false_ne_true]
                have f3 : Fin K W φ1 H2 σ (dcF src.nxt t Ti Fk Fv S1.length n (i + 1) (wipeE ρ vs) S3) Q := f2
                exact ⟨φ4, S3, (x2.trans x3).trans x4, rh4, f3.ext x4⟩
              | true =>
                rw [if_pos rfl]
                refine ⟨φ4, ρ2, S3, rh4, rl3.ext x4, ?_⟩
                have f3 : Fin K W φ1 H2 σ ((Fk ρ2 S3).quiet.bind fun y S2 => (Fv ρ2 S2).quiet.bind fun z S3 => match y, S3[S1.length]? with
                  | .str ks, some (.dct acc) => if acc.length < lim then dcF src.nxt t Ti Fk Fv S1.length n (i + 1) (wipeE ρ vs) (S3.set S1.length (.dct (dPut acc ks z))) else .stuck
                  | _, _ => .stuck) Q := f2
                cases zk : Fk ρ2 S3 with
                | stuck => rw [zk] at f3; exact f3.elim
                | exc xx S4 => rw [zk] at f3; exact f3.elim
                | ok kd S4 =>
                  rw [zk] at f3
                  intro φ5 H5 ky x5 rh5 rv5
                  refine ⟨φ5, ρ2, S4, rh5, (rl3.ext x4).ext x5, ?_⟩
                  simp only [Res.quiet, Res.bind_ok] at f3
                  cases zv : Fv ρ2 S4 with
                  | stuck => rw [zv] at f3; exact f3.elim
                  | exc xx S5 => rw [zv] at f3; exact f3.elim
                  | ok vd S5 =>
                    rw [zv] at f3
                    intro φ6 H6 vy x6 rh6 rv6
                    simp only [Res.bind_ok] at f3
                    split at f3
                    · rename_i ks acc ea
                      split at f3
                      · rename_i hl
                        have gD6 : φ6[S1.length]? = some Dd := pre_get (((x3.trans x4).trans x5).trans x6).pre gD
                        obtain ⟨ws, hw6, r6⟩ := rh6.at_ _ _ _ ea gD6
                        refine ⟨ws, .inr (toS ks), by rw [rv5.str_]; rfl, hw6, by rw [← r6.length, lim_eq]; exact hl, ?_⟩
                        obtain ⟨x7, rh7⟩ := set_dct rh6 gD6 hw6 (r6.put rv6 ks)
                        exact ⟨φ6, _, ((((x2.trans x3).trans x4).trans x5).trans x6).trans x7, rh7, (((f3.ext x4).ext x5).ext x6).ext x7⟩
                      · exact f3.elim
                    · exact f3.elim
variable {kx vx tg iter : Expr} {ifs : List Expr} {scope : Scope} {pos spos : Pos} {Fi : IF} {t : Tg} {Ti : TF} {Fk Fv : EF}
theorem ae_dc (own : List (Str × Nat)) (hc : X.calm = true) (hN : X.N.Nodup) (hi : AI X W tg iter Fi) (ok : BlkOk X.N X.env.scope scope own) (ht0 : ∀ i ∈ t.slots, i ∈ own.map (·.2))
    (hg : ∀ (s : Shared) (H : Hp) (C : Addr) (cl : List (Str × Addr)) (fp : List Addr), AG (X.blk s H scope (compEnvC scope cl C X.env) fp) tg t) (ht : ∀ (s : Shared) (H : Hp) (C : Addr) (cl : List (Str × Addr)) (fp : List Addr), ATs (X.blk s H scope (compEnvC scope cl C X.env) fp) W0 ifs Ti)
    (hk : ∀ (s : Shared) (H : Hp) (C : Addr) (cl : List (Str × Addr)) (fp : List Addr), AE (X.blk s H scope (compEnvC scope cl C X.env) fp) W0 kx Fk)
    (he : ∀ (s : Shared) (H : Hp) (C : Addr) (cl : List (Str × Addr)) (fp : List Addr), AE (X.blk s H scope (compEnvC scope cl C X.env) fp) W0 vx Fv) (hs : ∀ x, foldedSetIterable iter X.env x = pure x := by intro _; rfl) :
    AE X W (.DictComp kx vx [⟨tg, iter, ifs, 0⟩] scope pos) (eDc Fi t Ti Fk Fv (own.map (·.2))) :=
  pe_mono (pe_dc (g := tgV X.kw t) (tt := tFT X.kw W0 Ti) (tk := tF X.kw W0 Fk) (tv := tF X.kw W0 Fv) hc hN hi ok hg ht hk he hs) fun σ H Q h => dc_run ht0 h
end
end Al

set_option Elab.async false
set_option linter.all false
set_option maxRecDepth 100000
set_option maxHeartbeats 2000000
/-! Al: a dict is walked: it is locked meanwhile. -/
namespace Al
open PySem PySem.Spec PyProof.Rows L2
def lockO : O → Option O
  | .dct kvs => some (.ldct kvs)
  | .tdct false kvs => some (.tdct true kvs)
  | _ => none
def unlk {α : Type} (n : Nat) (o : O) : Res α → Res α
  | .ok a S => .ok a (S.set n o)
  | _ => .stuck
def unlkS (n : Nat) (o : O) : Res Out → Res Out
  | .ok (.xc _ _) _ => .stuck
  | .ok a S => .ok a (S.set n o)
  | _ => .stuck
/-- the number of the dict in slot v -/
def dnum (v : Nat) (ρ : Env) (S : Store) : Option (Nat × O × O) := match ρ[v]? with
  | some (some (.ref n)) => match S[n]? with
    | some o => (lockO o).map fun o' => (n, o, o')
    | none => none
  | _ => none
def sLock (v : Nat) (F : SF) : SF := fun ρ S => match dnum v ρ S with
  | some (n, o, o') => unlkS n o (F ρ (S.set n o'))
  | none => .stuck
def eLock (v : Nat) (F : EF) : EF := fun ρ S => match dnum v ρ S with
  | some (n, o, o') => unlk n o (F ρ (S.set n o'))
  | none => .stuck
/-- a dict's object that is not locked -/
def Dob (u : HO) : Prop := (∃ vs, u = .dK vs) ∨ ∃ q es ep, u = nd q es ep
theorem Dob.mu {H : Hp} {d : Addr} {u : HO} (h : Dob u) (e : H d = some u) : Mu (H d) := by
  rw [e]
  rcases h with ⟨vs, rfl⟩ | ⟨q, es, ep, rfl⟩
  · exact ⟨fun _ z => (by cases z), fun _ _ z => (by cases z), fun _ z => (by cases z)⟩
  · exact ⟨fun _ z => (by cases z), fun _ _ z => (by cases z), fun _ z => (by cases z)⟩
theorem Dob.mut {u : HO} (h : Dob u) : Mut (some u) := by
  rcases h with ⟨vs, rfl⟩ | ⟨q, es, ep, rfl⟩
  · exact True.intro
  · exact True.intro
theorem Dob.own {u : HO} (h : Dob u) (q : Addr) : u ≠ .own q := by
  rcases h with ⟨vs, rfl⟩ | ⟨_, es, ep, rfl⟩
  · exact fun z => nomatch z
  · exact fun z => nomatch z
section
variable {K : KW} {φ φ' : List Addr} {H H' : Hp} {S S' : Store} {n : Nat} {o o' : O} {d : Addr} {u : HO}
/-- what stands there, unlocked and locked -/
theorem lock_ok (l : lockO o = some o') (r : RO K φ H d o) : ∃ u, H d = some u ∧ Dob u ∧ (∀ {φ1 : List Addr} {H1 : Hp} (od : Obj), Ex0 K φ H φ1 H1 → H1 d = some (.frz od u) → RO K φ1 H1 d o') ∧ ∀ {φ1 : List Addr} {H1 : Hp}, Ex0 K φ H φ1 H1 → H1 d = some u → RO K φ1 H1 d o := by
  cases o with
  | dct kvs =>
    cases l
    obtain ⟨vs, h1, rk⟩ := r
    exact ⟨.dK vs, h1, .inl ⟨vs, rfl⟩, fun od x e => ⟨od, vs, e, rk.ext0 x⟩, fun x e => ⟨vs, e, rk.ext0 x⟩⟩
  | tdct b kvs =>
    cases b with
    | true => cases l
    | false =>
      cases l
      obtain ⟨es, ep, xs, h1, h2, h3, h4, rt⟩ := r
      rw [if_neg Bool.false_ne_true] at h1
      exact ⟨nd d es ep, h1, .inr ⟨d, es, ep, rfl⟩, fun od x e => ⟨es, ep, xs, by rw [if_pos rfl]; exact ⟨od, e⟩, h2, h3, h4, rt.ext0 x⟩, fun x e => ⟨es, ep, xs, by rw [if_neg Bool.false_ne_true]; exact e, h2, h3, h4, rt.ext0 x⟩⟩
  | lst _ => cases l
  | ins _ _ => cases l
  | ldct _ => cases l
/-- behind the walk -/
theorem Ext.unlock {od : Obj} (m : Mu (H d)) (x : Ext K φ (upd H d (.frz od u)) φ' H') : Ext K φ H φ' (upd H' d u) := by
  have ne1 : ∀ {p : Addr} {xs : List V}, H p = some (.tup xs) → p ≠ d := fun e z => m.1 _ (by rw [← z]; exact e)
  have ne2 : ∀ {p : Addr} {ob : Obj} {w : HO}, H p = some (.frz ob w) → p ≠ d := fun e z => m.2.1 _ _ (by rw [← z]; exact e)
  have ne3 : ∀ {p : Addr} {xs : List (Str × V)}, H p = some (.xd xs) → p ≠ d := fun e z => m.2.2 _ (by rw [← z]; exact e)
  refine ⟨x.pre, fun p xs h => ?_, fun p xs h => ?_, fun p vs e => ?_, fun p ob w e => ?_⟩
  · rcases h with h | h
    · have np : p ≠ d := by
        rcases h with h | ⟨ob, h⟩
        · exact ne1 h
        · exact ne2 h
      have h' : SqT K (upd H d (.frz od u)) p xs := .inl (by
        rcases h with h | ⟨ob, h⟩
        · exact .inl (by rw [upd_ne np]; exact h)
        · exact .inr ⟨ob, by rw [upd_ne np]; exact h⟩)
      rcases x.sq p xs h' with (q | ⟨ob, q⟩) | q
      · exact .inl (.inl (by rw [upd_ne np]; exact q))
      · exact .inl (.inr ⟨ob, by rw [upd_ne np]; exact q⟩)
      · exact .inr q
    · exact .inr h
  · rcases h with ⟨ob, h⟩ | h
    · have np : p ≠ d := ne2 h
      rcases x.fz p xs (.inl ⟨ob, by rw [upd_ne np]; exact h⟩) with ⟨ob', q⟩ | q
      · exact .inl ⟨ob', by rw [upd_ne np]; exact q⟩
      · exact .inr q
    · exact .inr h
  · have np := ne3 e
    rw [upd_ne np]
    exact x.xd p vs (by rw [upd_ne np]; exact e)
  · have np := ne2 e
    rw [upd_ne np]
    exact x.fr p ob w (by rw [upd_ne np]; exact e)
theorem Dob.ne {u : HO} (h : Dob u) : (∀ xs, u ≠ .tup xs) ∧ ∀ xs, u ≠ .lst xs := by
  rcases h with ⟨vs, rfl⟩ | ⟨_, es, ep, rfl⟩
  · exact ⟨fun _ z => (nomatch z), fun _ z => (nomatch z)⟩
  · exact ⟨fun _ z => (nomatch z), fun _ z => (nomatch z)⟩
theorem ex0_unlock {od : Obj} (b : Dob u) (hf : H d = some (.frz od u)) : Ex0 K φ H φ (upd H d u) := by
  refine ⟨List.prefix_refl _, fun p xs h => ?_, fun p xs h => ?_⟩
  · rcases h with (h | ⟨ob, h⟩) | h
    · have np : p ≠ d := fun z => by rw [z, hf] at h; cases h
      exact .inl (.inl (by rw [upd_ne np]; exact h))
    · have np : p ≠ d := fun z => by rw [z, hf] at h; cases h; exact b.ne.1 _ rfl
      exact .inl (.inr ⟨ob, by rw [upd_ne np]; exact h⟩)
    · exact .inr h
  · rcases h with ⟨ob, h⟩ | h
    · have np : p ≠ d := fun z => by rw [z, hf] at h; cases h; exact b.ne.2 _ rfl
      exact .inl ⟨ob, by rw [upd_ne np]; exact h⟩
    · exact .inr h
theorem RH.unlock {od : Obj} (rh : RH K φ H S) (g : φ[n]? = some d) (b : Dob u) (hf : H d = some (.frz od u)) (r : RO K φ (upd H d u) d o) : RH K φ (upd H d u) (S.set n o) := by
  have x := ex0_unlock (K := K) (φ := φ) b hf
  refine ⟨by simp [rh.len], rh.nd, fun i y q e1 e2 => ?_⟩
  by_cases hi : i = n
  · subst hi
    have hl : i < S.length := rh.len ▸ (List.getElem?_eq_some_iff.mp e2).1
    rw [List.getElem?_set_self hl] at e1
    cases e1
    rw [g] at e2
    cases e2
    exact r
  · rw [List.getElem?_set_ne (Ne.symm hi)] at e1
    have ry := rh.at_ i y q e1 e2
    have hq : q ≠ d := fun z => by
      subst z
      obtain ⟨l1, z1⟩ := List.getElem?_eq_some_iff.mp e2
      obtain ⟨l2, z2⟩ := List.getElem?_eq_some_iff.mp g
      exact hi ((List.getElem_inj rh.nd).mp (z1.trans z2.symm))
    refine ry.ext0 x (upd_ne hq) fun c hc => ?_
    have nc : c ≠ d := fun z => by rw [z, hf] at hc; cases hc
    rw [upd_ne nc]
    exact hc
end
section
variable {X : Cx} {W : WX} {st : Stmt} {e : Expr} {F : SF} {Fe : EF} {v : Nat}
theorem dnum_ok {K : KW} {φ : List Addr} {H : Hp} {σ : St} {ρ : Env} {S : Store} {n : Nat} {o o' : O} (rh : RH K φ H S) (h : dnum v ρ S = some (n, o, o')) : ∃ d, φ[n]? = some d ∧ S[n]? = some o ∧ lockO o = some o' ∧ RO K φ H d o := by
  unfold dnum at h
  split at h
  · split at h
    · rename_i n' _ oo e1
      obtain ⟨o2, e2, e3⟩ := mapOpt h
      cases e3
      have hl : n < φ.length := by rw [rh.len]; exact (List.getElem?_eq_some_iff.mp e1).1
      exact ⟨φ[n], List.getElem?_eq_getElem hl, e1, e2, rh.at_ _ _ _ e1 (List.getElem?_eq_getElem hl)⟩
    · cases h
  · cases h
theorem as_lock (v : Nat) (h : AS X W st F) : AS X W st (sLock v F) := by
  refine ps_mono (ps_lock h) fun D' σ H ⟨φ, ρ, S, rh, rl, f⟩ => ?_
  unfold sLock at f
  cases zd : dnum v ρ S with
  | none => rw [zd] at f; exact f.elim
  | some t =>
    obtain ⟨n, o, o'⟩ := t
    rw [zd] at f
    simp only at f
    obtain ⟨d, g, en, lo, ro⟩ := dnum_ok (σ := σ) rh zd
    obtain ⟨u, hd, db, r1, r2⟩ := lock_ok lo ro
    refine ⟨d, u, hd, db.mut, fun od => ?_⟩
    have m := db.mu hd
    have x1 : Ext X.kw φ H φ (upd H d (.frz od u)) := Ext.wr m
    have rh1 : RH X.kw φ (upd H d (.frz od u)) (S.set n o') := rh.set g m (fun q hq => by rw [hd] at hq; exact db.own q (Option.some.inj hq)) (r1 od x1.e0 upd_same)
    refine ⟨φ, ρ, S.set n o', rh1, rl.ext x1, ?_⟩
    have back : ∀ {φ' : List Addr} {H' : Hp} {S' : Store}, Ext X.kw φ (upd H d (.frz od u)) φ' H' → RH X.kw φ' H' S' → H' d = some (.frz od u) ∧ Ext X.kw φ H φ' (upd H' d u) ∧ RH X.kw φ' (upd H' d u) (S'.set n o) ∧ Ex0 X.kw φ' H' φ' (upd H' d u) := by
      intro φ' H' S' x rh'
      have hf := x.fr d od u upd_same
      have xe := Ext.unlock m x
      exact ⟨hf, xe, rh'.unlock (pre_get x.pre g) db hf (r2 xe.e0 upd_same), ex0_unlock db hf⟩
    cases zf : F ρ (S.set n o') with
    | stuck => rw [zf] at f; exact f.elim
    | exc xx S1 => rw [zf] at f; exact f.elim
    | ok ou S1 =>
      rw [zf] at f
      cases ou with
      | nx ρ1 =>
        intro φ' H' σ' x rh' rl'
        obtain ⟨b1, b2, b3, b4⟩ := back x rh'
        exact ⟨b1, f φ' _ σ' b2 b3 (rl'.ext0 b4)⟩
      | bk ρ1 =>
        intro φ' H' σ' x rh' rl'
        obtain ⟨b1, b2, b3, b4⟩ := back x rh'
        exact ⟨b1, f φ' _ σ' b2 b3 (rl'.ext0 b4)⟩
      | ct ρ1 =>
        intro φ' H' σ' x rh' rl'
        obtain ⟨b1, b2, b3, b4⟩ := back x rh'
        exact ⟨b1, f φ' _ σ' b2 b3 (rl'.ext0 b4)⟩
      | ret dd =>
        intro φ' H' vv x rh' rv'
        obtain ⟨b1, b2, b3, b4⟩ := back x rh'
        exact ⟨b1, f φ' _ vv b2 b3 (rv'.ext0 b4)⟩
      | xc yy ρ1 => exact f.elim
theorem ae_lock (v : Nat) (h : AE X W e Fe) : AE X W e (eLock v Fe) := by
  refine pe_mono (pe_lock h) fun σ H Q ⟨φ, ρ, S, rh, rl, f⟩ => ?_
  unfold eLock at f
  cases zd : dnum v ρ S with
  | none => rw [zd] at f; exact f.elim
  | some t =>
    obtain ⟨n, o, o'⟩ := t
    rw [zd] at f
    simp only at f
    obtain ⟨d, g, en, lo, ro⟩ := dnum_ok (σ := σ) rh zd
    obtain ⟨u, hd, db, r1, r2⟩ := lock_ok lo ro
    refine ⟨d, u, hd, db.mut, fun od => ?_⟩
    have m := db.mu hd
    have x1 : Ext X.kw φ H φ (upd H d (.frz od u)) := Ext.wr m
    have rh1 : RH X.kw φ (upd H d (.frz od u)) (S.set n o') := rh.set g m (fun q hq => by rw [hd] at hq; exact db.own q (Option.some.inj hq)) (r1 od x1.e0 upd_same)
    refine ⟨φ, ρ, S.set n o', rh1, rl.ext x1, ?_⟩
    cases zf : Fe ρ (S.set n o') with
    | stuck => rw [zf] at f; exact f.elim
    | exc xx S1 => rw [zf] at f; exact f.elim
    | ok dd S1 =>
      rw [zf] at f
      intro φ' H' vv x rh' rv'
      have hf := x.fr d od u upd_same
      have xe := Ext.unlock m x
      exact ⟨hf, f φ' _ vv xe (rh'.unlock (pre_get x.pre g) db hf (r2 xe.e0 upd_same)) (rv'.ext0 (ex0_unlock db hf))⟩
/-! ### for k in d, d locked, texts as keys -/
def keysOf (d : D) (S : Store) : Option (List D) := match d with
  | .ref n => match S[n]? with
    | some (.ldct kvs) => some (kvs.map fun p => .str p.1)
    | _ => none
  | _ => none
def iKey (a : EF) : IF := fun ρ S => (a ρ S).bind fun d S1 => match keysOf d S1 with
  | some ks => .ok ⟨ks.length + 1, fun i _ => nxL ks i⟩ S1
  | none => .stuck
theorem RKs.at {K : KW} {φ : List Addr} {H : Hp} : ∀ {ps : List (List Nat × D)} {qs : List (Key × V)} {i : Nat} {k : Key} {v : V}, RKs K φ H ps qs → qs[i]? = some (k, v) → ∃ p, ps[i]? = some p ∧ k = .inr (toS p.1)
  | [], qs, i, k, v, h, e => by rw [show qs = [] from h] at e; simp at e
  | p :: ps, qs, 0, k, v, h, e => by
    obtain ⟨x, r, rfl, ⟨h0, _⟩, _⟩ := h
    simp at e
    rw [e] at h0
    exact ⟨p, rfl, h0⟩
  | p :: ps, qs, i + 1, k, v, h, e => by
    obtain ⟨x, r, rfl, _, h2⟩ := h
    obtain ⟨q, e1, e2⟩ := RKs.at (i := i) h2 (by simpa using e)
    exact ⟨q, by simpa using e1, e2⟩
theorem ai_keys {tg : Expr} (ha : AE X W e Fe) : AI X W tg e (iKey Fe) := by
  refine pi_mono (pi_keys ha) fun σ H R ⟨φ, ρ, S, rh, rl, f⟩ => ⟨φ, ρ, S, rh, rl, ?_⟩
  unfold iKey at f
  cases z : Fe ρ S with
  | stuck => rw [z] at f; exact f.elim
  | exc x S1 => rw [z] at f; exact f
  | ok d S1 =>
    rw [z] at f
    intro φ1 H1 v x1 rh1 rv1
    simp only [Res.bind_ok] at f
    cases zk : keysOf d S1 with
    | none => rw [zk] at f; exact f.elim
    | some ks =>
      rw [zk] at f
      unfold keysOf at zk
      split at zk
      · split at zk
        · rename_i n _ kvs en
          cases zk
          obtain ⟨p, rfl, g, od, vs, h1, rk⟩ := rh1.obj en rv1
          refine ⟨p, od, rfl, .inl ⟨vs, h1, f φ1 H1 _ x1 rh1 ?_⟩⟩
          intro i φ2 H2 S2 x2 rh2
          have hf := x2.fr _ _ _ h1
          refine ⟨fun dd e => ?_, fun e => ?_⟩
          · have e1 := nxL_some e
            have il : i < kvs.length := by
              have := (List.getElem?_eq_some_iff.mp e1).1
              simpa using this
            refine ⟨⟨hf, by rw [← rk.length]; exact il⟩, fun y H' ⟨eH, k, v, e2, e3⟩ => ?_⟩
            subst eH
            obtain ⟨q, e4, e5⟩ := rk.at e2
            rw [List.getElem?_map, e4] at e1
            have : D.str q.1 = dd := by simpa using e1
            subst this
            subst e3
            rw [e5]
            exact ⟨.refl, rh2, rv_str⟩
          · have : nxL (kvs.map fun p => D.str p.1) i = some none := e
            unfold nxL at this
            split at this
            · rename_i hi
              refine ⟨hf, ?_⟩
              rw [hi, List.length_map, rk.length]
              exact Nat.le_refl _
            · cases h : (kvs.map fun p => D.str p.1)[i]? with
              | none => rw [h] at this; cases this
              | some y => rw [h] at this; cases this
        · cases zk
      · cases zk
end
end Al

set_option Elab.async false
set_option linter.all false
set_option maxRecDepth 100000
set_option maxHeartbeats 2000000
/-! Al: dicts with tuples as keys. -/
namespace Al
open PySem PySem.Spec PyProof.Rows L2
/-! ### keys -/
section
variable {X : Cx} {pins : List (Addr × Obj)} {σ : St} {H : Hp} {s : Shared} {φ : List Addr}
mutual
theorem nk_is (I : Inv X pins σ H s) : ∀ {d : D} {v : V} {u : Value} {k : NestedKey}, RV X.kw φ H d v → RelV v u → nkOf d = some k → NestedIs s.heap k u
  | .non, v, u, k, r, ru, e => by
    cases e
    rw [r.non_] at ru
    cases ru
    exact .none
  | .bl b, v, u, k, r, ru, e => by
    cases e
    rw [r.bl_] at ru
    cases ru
    exact .bool rfl
  | .int i, v, u, k, r, ru, e => by
    cases e
    rw [r.int_] at ru
    obtain ⟨t, rfl⟩ := ru
    exact .int i t
  | .str x, v, u, k, r, ru, e => by
    cases e
    rw [r.str_] at ru
    obtain ⟨t, rfl⟩ := ru
    exact .text _ t
  | .tup ds, v, u, k, r, ru, e => by
    obtain ⟨ks, e1, rfl⟩ := mapOpt (show (nkAll ds).map NestedKey.tup = some k from e)
    obtain ⟨p, vs, rfl, sq, rs⟩ := r.tup_
    cases ru
    obtain ⟨its, rv, ⟨o, ho, hc, n, hd⟩, hz⟩ := I.tuple sq
    exact .tup ho hc hd (by simpa using nk_all I rs rv e1)
  | .ref _, v, u, k, r, ru, e => by cases e
  | .scl _, v, u, k, r, ru, e => by cases e
theorem nk_all (I : Inv X pins σ H s) : ∀ {ds : List D} {vs : List V} {us : List Value} {ks : List NestedKey}, RVs X.kw φ H ds vs → Vals vs us → nkAll ds = some ks → NestedAll s.heap ks us
  | [], vs, us, ks, r, ru, e => by
    cases e
    cases r.nil_iff
    cases ru
    exact .nil
  | d :: ds, vs, us, ks, r, ru, e => by
    obtain ⟨v, rs, rfl, h1, h2⟩ := r.cons_iff
    cases ru with
    | cons a b =>
      simp only [nkAll] at e
      split at e
      · rename_i k ks' e1 e2
        cases e
        exact .cons (nk_is I h1 a e1) (nk_all I h2 b e2)
      · cases e
end
/-- what stands at p -/
theorem td_at {p : Addr} {l : Bool} {kvs : List (D × D)} (I : Inv X pins σ H s) (t : TD X.kw φ H p l kvs) : ∃ xs : List NK, s.heap.DictOfH (nestedKind X.prog X.w) p xs ∧ RTs X.kw φ H kvs xs ∧ (p == sysModules) = false := by
  obtain ⟨es, ep, xs, h1, h2, h3, h4, rt⟩ := t
  have raw : ∃ o, s.heap.get? p = some o ∧ o.ExactDict ∧ o.data = .dict es ep := by
    by_cases hl : l = true
    · rw [if_pos hl] at h1
      obtain ⟨od, h1⟩ := h1
      have z : ObjOk X.prog X.w H s.heap p (nd p es ep) := (I.hok p _ h1).2
      exact z.1
    · rw [if_neg hl] at h1
      have z : ObjOk X.prog X.w H s.heap p (nd p es ep) := I.hok p _ h1
      exact z.1
  obtain ⟨o, ho, hx, hd⟩ := raw
  refine ⟨xs, ⟨o, es, ep, ho, hx, hd, h2, ?_, h3⟩, rt, h4⟩
  clear h1 h2 h3 hd
  have all : ∀ {kvs : List (D × D)} {xs : List NK}, RTs X.kw φ H kvs xs → ∀ x ∈ xs, (nestedKind X.prog X.w).is s.heap x.1 x.2.1 := by
    intro kvs
    induction kvs with
    | nil =>
      intro xs r x hx
      rw [show xs = [] from r] at hx
      cases hx
    | cons q qs ih =>
      intro xs r x hx
      obtain ⟨y, ys, rfl, ⟨a1, a2, a3, _⟩, a4⟩ := r
      rcases List.mem_cons.mp hx with rfl | hx
      · exact ⟨nk_is I a3 rfl a1, a2⟩
      · exact ih a4 x hx
  exact all rt
end
/-! ### d[k], k in d -/
def tGet : List (D × D) → NestedKey → Option D
  | [], _ => none
  | p :: r, k => if nkOf p.1 = some k then some p.2 else tGet r k
theorem RTs.get {K : KW} {φ : List Addr} {H : Hp} (k : NestedKey) : ∀ {kvs : List (D × D)} {xs : List NK}, RTs K φ H kvs xs → (∀ d, tGet kvs k = some d → ∃ a u v, atKey xs k = some (a, u) ∧ RelV v u ∧ RV K φ H d v) ∧ (tGet kvs k = none → atKey xs k = none)
  | [], xs, h => by rw [show xs = [] from h]; exact ⟨fun d e => (by cases e), fun _ => rfl⟩
  | p :: kvs, xs, h => by
    obtain ⟨x, r, rfl, ⟨h0, h1, h2, v, h3, h4⟩, h5⟩ := h
    unfold tGet
    by_cases e : x.1 = k
    · have : atKey (x :: r) k = some x.2 := by unfold atKey; rw [List.find?_cons_of_pos (by simpa using e)]; rfl
      rw [if_pos (by rw [h0, e]), this]
      exact ⟨fun d z => (by cases z; exact ⟨x.2.1, x.2.2, v, rfl, h3, h4⟩), fun z => (by cases z)⟩
    · have : atKey (x :: r) k = atKey r k := by unfold atKey; rw [List.find?_cons_of_neg (by simpa using e)]
      rw [if_neg (by rw [h0]; exact fun z => e (Option.some.inj z)), this]
      exact RTs.get k h5
def tdAt (S : Store) (n : Nat) : Option (List (D × D)) := match S[n]? with
  | some (.tdct _ kvs) => some kvs
  | _ => none
theorem tdAt_ok {K : KW} {φ : List Addr} {H : Hp} {S : Store} {n : Nat} {kvs : List (D × D)} {v : V} (rh : RH K φ H S) (e : tdAt S n = some kvs) (r : RV K φ H (.ref n) v) : ∃ p l, v = .ref p ∧ φ[n]? = some p ∧ TD K φ H p l kvs := by
  unfold tdAt at e
  split at e
  · rename_i l ys e1
    cases e
    obtain ⟨p, rfl, g, t⟩ := rh.obj e1 r
    exact ⟨p, l, rfl, g, t⟩
  · cases e
def tixO : F2
  | .ref n, .tup ks, S => (tdAt S n).bind fun kvs => (nkOf (.tup ks)).bind fun k => if k.depth ≤ 8 then (tGet kvs k).map fun d => (d, S) else none
  | _, _, _ => none
section
variable {X : Cx} {W : WX} {o i : Expr} {Fo Fi : EF} {pos : Pos}
theorem ae_tget (hu : X.A.units + 12 < cLine) (ho : AE X W o Fo) (hi : AE X W i Fi) (hs : NoSl i := by exact fun _ _ => rfl) : AE X W (.Subscript o i pos) (eOp tixO Fo Fi) := by
  refine ⟨fun pins s σ H Q I h => ?_⟩
  refine subD_of PySem.F.slot_dict_getitem.lookup hs (thn (ho.run pins s σ H _ I (two_parts h)) fun u s1 ⟨x, H1, I1, rx, q1⟩ => thn (hi.run pins s1 σ H1 _ I1 q1) fun iv s2 ⟨y, H2, I2, ry, q2⟩ => ?_)
  obtain ⟨φ, S, dx, dy, rh, rvx, rvy, fi⟩ := q2
  obtain ⟨d, S', e, k⟩ := fin_of fi
  unfold tixO at e
  split at e
  · rename_i n ks
    obtain ⟨kvs, e1, e2⟩ := bindO e
    obtain ⟨nk, e3, e4⟩ := bindO e2
    split at e4
    · rename_i hd8
      obtain ⟨d', e5, e6⟩ := mapOpt e4
      cases e6
      obtain ⟨p, l, rfl, g, t⟩ := tdAt_ok rh e1 rvx
      obtain rfl : u = Value.ref p := rx
      obtain ⟨q, vs, rfl, sq, _⟩ := id rvy.tup_
      obtain rfl : iv = Value.ref q := ry
      obtain ⟨xs, hm, rt, hsm⟩ := td_at I2 t
      obtain ⟨a, w', v, e7, rel, rv⟩ := (rt.get nk).1 _ e5
      refine ⟨hm.typeIs, wpAny_getItem_heap (knd := nestedKind X.prog X.w) (show X.A.in1.units + 8 < cLine from ?_) ⟨nk_is I2 rvy rfl e3, hd8⟩ hm e7 ?_⟩
      · show X.A.units + 1 + 8 < cLine
        omega
      · exact ⟨v, H2, I2.tok _, rel, k φ H2 v .refl rh rv⟩
    · cases e4
  · cases e
end
end Al

set_option Elab.async false
set_option linter.all false
set_option maxRecDepth 100000
set_option maxHeartbeats 2000000
/-! Al: walks over dicts with tuples as keys. -/
namespace Al
open PySem PySem.Spec PyProof.Rows L2
/-- the keys, in order -/
def Itn (d : Addr) (o : Obj) (es : Array DictEntry) (ep : Nat) : It :=
  ⟨fun i H => H d = some (.frz o (nd d es ep)) ∧ i < es.size, fun i H x H' => H' = H ∧ ∃ en, es[i]? = some en ∧ RelV x en.key, fun i H => H d = some (.frz o (nd d es ep)) ∧ es.size ≤ i⟩
theorem frzN {X : Cx} {pins : List (Addr × Obj)} {σ : St} {H : Hp} {s : Shared} {d : Addr} {o : Obj} {es : Array DictEntry} {ep : Nat} (I : Inv X pins σ H s) (h : H d = some (.frz o (nd d es ep))) : s.heap.get? d = some o ∧ o.ExactDict ∧ o.data = .dict es ep := by
  obtain ⟨h1, h2⟩ := I.hok d _ h
  have z : ObjOk X.prog X.w H s.heap d (nd d es ep) := h2
  obtain ⟨o', h3, h4, h5⟩ := z.1
  rw [h1] at h3
  cases h3
  exact ⟨h1, h4, h5⟩
theorem turn_keysN {P : Program} {w : World} {K : PySem.W.Frag} {tg : Expr} {d it : Addr} {o : Obj} {es : Array DictEntry} {ep : Nat} (hz : ∀ (i : Nat) (en : DictEntry), es[i]? = some en → ∃ q, en.key = .ref q) :
    Turn P w K tg (Itn d o es ep) [it] it (fun i h => h.IsKeyIter it d i es.size ep) := by
  refine ⟨by simp, ?_, ?_, ?_, ?_, ?_⟩
  · intro i h st b hb
    obtain rfl : b = it := by simpa using hb
    obtain ⟨oi, e, c, dd⟩ := st
    exact ⟨oi, e, fun v z => by rw [dd] at z; cases z⟩
  · exact fun i h h' st k => st.at fun oi e => k it (by simp) oi e
  · intro X hP hw hK hc i pins s σ H E I hf st hg
    subst hP hw hK
    obtain ⟨hd, hi⟩ := hg
    obtain ⟨f0, f1, f2, f3, f4, f5⟩ := hf it (by simp)
    obtain ⟨hgd, hx, hdt⟩ := frzN I hd
    have hen : es[i]? = some es[i] := by simp [hi]
    obtain ⟨q, hq⟩ := hz i _ hen
    refine next_key_item st hgd hdt rfl hen ?_
    intro h' st' sb
    have J : Inv X pins σ H { s with heap := h' } := I.turned (t' := s.toks) (fun b ob hb e => (sb.2 b hb).trans e) f0 f1 f3 f4 f5
    obtain ⟨oi, e, c, dd⟩ := id st'
    refine ⟨es[i].key, rfl, go_of (s := { s with heap := h' }) e c dd (by decide) ?_⟩
    exact ⟨.ref q, H, J, hq, ⟨rfl, _, hen, hq⟩, st', fun b hb => (hf b hb).1⟩
  · intro X hP hw hK hc i pins s σ H E I hf st hg
    subst hP hw hK
    obtain ⟨hd, hi⟩ := hg
    obtain ⟨f0, f1, f2, f3, f4, f5⟩ := hf it (by simp)
    obtain ⟨hgd, hx, hdt⟩ := frzN I hd
    refine next_key_end (I.ok.hd hc) st hgd hdt rfl hi ?_
    exact fun h' eb => ⟨rfl, I.turned (t' := s.toks) (fun b ob hb e => eb b ob hb e) f0 f1 f3 f4 f5⟩
  · intro A i s Q E st h
    refine wpAny_pyIter_slot st.typeIs F.slot_dict_keyiterator_iter ?_
    refine wpAny_call_entry F.slot_dict_keyiterator_iter st.typeIs F.entry_dict_keyiterator_iter ?_ (F.args_dict_keyiterator_iter_1 _)
    show wpAny _ _ (ret (.ref it)) _ _ s
    exact wpAny_pure ⟨_, rfl, "dict_keyiterator", _, st.typeIs, F.slot_dict_keyiterator_next.lookup, h⟩
def iKeysN (td : TE) : TI := fun σ H R => td σ H fun x H1 => ∃ d o es ep, x = .ref d ∧ (d == sysModules) = false ∧ H1 d = some (.frz o (nd d es ep)) ∧ (∀ (i : Nat) (en : DictEntry), es[i]? = some en → ∃ q, en.key = .ref q) ∧ R (Itn d o es ep) H1
theorem pi_keysN {X : Cx} {tg e : Expr} {td : TE} (he : PE X e td) : PI X tg e (iKeysN td) := by
  refine ⟨fun pins s σ H R I h => ?_⟩
  refine thn (he.run pins s σ H _ I h) ?_
  rintro u s1 ⟨x, H1, I1, rx, d, o, es, ep, rfl, hs, hd, hz, q⟩
  obtain rfl : u = Value.ref d := rx
  obtain ⟨hgd, hx, hdt⟩ := frzN I1 hd
  exact iter_keys hs hgd hx hdt (pi_one (tk := s1.toks) I1 _ (turn_keysN hz) ⟨_, Heap.get?_push_size _ rfl, rfl, rfl⟩ q)
def keysT (d : D) (S : Store) : Option (List D) := match d with
  | .ref n => match S[n]? with
    | some (.tdct true kvs) => some (kvs.map (·.1))
    | _ => none
  | _ => none
def iKeyT (a : EF) : IF := fun ρ S => (a ρ S).bind fun d S1 => match keysT d S1 with
  | some ks => .ok ⟨ks.length + 1, fun i _ => nxL ks i⟩ S1
  | none => .stuck
theorem RTs.length {K : KW} {φ : List Addr} {H : Hp} : ∀ {kvs : List (D × D)} {xs : List NK}, RTs K φ H kvs xs → kvs.length = xs.length
  | [], xs, h => by rw [show xs = [] from h]; rfl
  | p :: kvs, xs, h => by
    obtain ⟨x, r, rfl, _, h2⟩ := h
    rw [List.length_cons, List.length_cons, RTs.length h2]
theorem RTs.at {K : KW} {φ : List Addr} {H : Hp} : ∀ {kvs : List (D × D)} {xs : List NK} {i : Nat} {p : D × D}, RTs K φ H kvs xs → kvs[i]? = some p → ∃ x, xs[i]? = some x ∧ RT K φ H p x
  | [], xs, i, p, h, e => by simp at e
  | q :: kvs, xs, 0, p, h, e => by
    obtain ⟨x, r, rfl, h1, _⟩ := h
    simp at e
    subst e
    exact ⟨x, rfl, h1⟩
  | q :: kvs, xs, i + 1, p, h, e => by
    obtain ⟨x, r, rfl, _, h2⟩ := h
    obtain ⟨y, e1, e2⟩ := RTs.at (i := i) h2 (by simpa using e)
    exact ⟨y, by simpa using e1, e2⟩
theorem ai_keysT {X : Cx} {W : WX} {tg e : Expr} {Fe : EF} (ha : AE X W e Fe) : AI X W tg e (iKeyT Fe) := by
  refine pi_mono (pi_keysN ha) fun σ H R ⟨φ, ρ, S, rh, rl, f⟩ => ⟨φ, ρ, S, rh, rl, ?_⟩
  unfold iKeyT at f
  cases z : Fe ρ S with
  | stuck => rw [z] at f; exact f.elim
  | exc x S1 => rw [z] at f; exact f
  | ok d S1 =>
    rw [z] at f
    intro φ1 H1 v x1 rh1 rv1
    simp only [Res.bind_ok] at f
    cases zk : keysT d S1 with
    | none => rw [zk] at f; exact f.elim
    | some ks =>
      rw [zk] at f
      unfold keysT at zk
      split at zk
      · split at zk
        · rename_i n _ kvs en
          cases zk
          obtain ⟨p, rfl, g, es, ep, xs, h1, h2, h3, h4, rt⟩ := rh1.obj en rv1
          rw [if_pos rfl] at h1
          obtain ⟨od, h1⟩ := h1
          have sz : es.size = xs.length := by rw [← Array.length_toList, h2, List.length_map]
          have ent : ∀ (i : Nat) (x : NK), xs[i]? = some x → es[i]? = some (nkE X.kw.w x) := fun i x e => by rw [← Array.getElem?_toList, h2, List.getElem?_map, e]; rfl
          refine ⟨p, od, es, ep, rfl, h4, h1, ?_, f φ1 H1 _ x1 rh1 ?_⟩
          · intro i en' e
            rw [← Array.getElem?_toList, h2, List.getElem?_map] at e
            obtain ⟨x, e1, e2⟩ := mapOpt e
            exact ⟨x.2.1, by rw [← e2]; rfl⟩
          · intro i φ2 H2 S2 x2 rh2
            have hf := x2.fr _ _ _ h1
            refine ⟨fun dd e => ?_, fun e => ?_⟩
            · have e1 := nxL_some e
              rw [List.getElem?_map] at e1
              obtain ⟨q, e2, e3⟩ := mapOpt e1
              subst e3
              obtain ⟨x, e4, ⟨a1, a2, a3, _⟩⟩ := rt.at e2
              have il : i < es.size := by rw [sz]; exact (List.getElem?_eq_some_iff.mp e4).1
              refine ⟨⟨hf, il⟩, fun y H' ⟨eH, en', e5, e6⟩ => ?_⟩
              subst eH
              rw [ent i x e4] at e5
              cases e5
              have ey : y = .ref x.2.1 := by
                have e6 : RelV y (Value.ref x.2.1) := e6
                cases y <;> first | (obtain ⟨_, h⟩ := e6; cases h) | (cases e6; rfl) | (cases e6)
              subst ey
              exact ⟨.refl, rh2, a3.ext x2⟩
            · have : nxL (kvs.map (·.1)) i = some none := e
              unfold nxL at this
              split at this
              · rename_i hi
                refine ⟨hf, ?_⟩
                rw [hi, List.length_map, sz, rt.length]
                exact Nat.le_refl _
              · cases h : (kvs.map (·.1))[i]? with
                | none => rw [h] at this; cases this
                | some y => rw [h] at this; cases this
        · cases zk
      · cases zk
end Al

set_option Elab.async false
set_option linter.all false
set_option maxRecDepth 100000
set_option maxHeartbeats 2000000
/-! Al: dict comprehensions by what a store does (Pt), whatever the keys. -/
namespace Al
open PySem PySem.Spec PyProof.Rows L2
/-- what a store of a key and a value wants; D the dict -/
abbrev PtR := Addr → V → V → Hp → (Hp → Prop) → Prop
def tDcU (o0 : Addr → HO) (Pt : PtR) (wi : TI) (g : TG) (tt : TT) (tk tv : TE) (vs : List Nat) : TE := fun σ H Q => wi σ H fun J H1 => ∀ D, H1 D = none → (D == sysModules) = false → ∃ W : Nat → Nat → Hp → Prop, (∃ m, W 0 m (upd H1 D (o0 D))) ∧ ∀ i m H, W i m H →
  (J.stop i H ∧ Q (.ref D) H) ∨ (J.go i H ∧ ∃ Nx : Hp → Prop, (∀ H', Nx H' → ∃ m', m' < m ∧ W (i + 1) m' H') ∧ ∀ x H', J.yld i H x H' → g x (wipe σ vs) H' fun σ2 H2 => wipe σ2 vs = wipe σ vs ∧ tt σ2 H2 fun b H3 =>
    if b = true then tk σ2 H3 fun y H4 => tv σ2 H4 fun z H5 => Pt D y z H5 Nx else Nx H3)
/-- the dict's store keeps its word -/
def PutOk (X : Cx) (Pt : PtR) : Prop := ∀ (Y : Cx), Y.prog = X.prog → Y.w = X.w → Y.K = X.K → Y.A = X.A → ∀ (pins : List (Addr × Obj)) (σ : St) (H : Hp) (s : Shared) (E : Value → Shared → Prop) (D : Addr) (y z : V) (u r : Value) (Nx : Hp → Prop), Inv Y pins σ H s → RelV y u → RelV z r → Pt D y z H Nx →
  wpAny (model Y.prog Y.w) Y.A (dictSet D u r) (fun _ s' => ∃ H', Inv Y pins σ H' s' ∧ Nx H') E s
section
variable {X : Cx}
theorem dcU_core {pins : List (Addr × Obj)} {s : Shared} {σ : St} {H : Hp} {Q : VK} {kx vx tg iter : Expr} {ifs : List Expr} {scope : Scope} {own : List (Str × Nat)} {pos pos' : Pos} {wi : TI} {g : TG} {tt : TT} {tk tv : TE} {use : Option (Value → Sem Unit)} {Qf : Value → Shared → Prop} {o0 : Addr → HO} {Pt : PtR}
    (ho : ∀ (H : Hp) (h : Heap), sysModules < h.objs.size → ObjOk X.prog X.w H (h.push { cls := .type "dict", data := .dict #[] }) h.objs.size (o0 h.objs.size)) (hp : PutOk X Pt) (hc : X.calm = true) (hN : X.N.Nodup) (I : Inv X pins σ H s) (hi : PI X tg iter wi) (ok : BlkOk X.N X.env.scope scope own)
    (hg : ∀ (s : Shared) (H : Hp) (C : Addr) (cl : List (Str × Addr)) (fp : List Addr), PG (X.blk s H scope (compEnvC scope cl C X.env) fp) tg g) (ht : ∀ (s : Shared) (H : Hp) (C : Addr) (cl : List (Str × Addr)) (fp : List Addr), PTs (X.blk s H scope (compEnvC scope cl C X.env) fp) ifs tt)
    (hk : ∀ (s : Shared) (H : Hp) (C : Addr) (cl : List (Str × Addr)) (fp : List Addr), PE (X.blk s H scope (compEnvC scope cl C X.env) fp) kx tk)
    (he : ∀ (s : Shared) (H : Hp) (C : Addr) (cl : List (Str × Addr)) (fp : List Addr), PE (X.blk s H scope (compEnvC scope cl C X.env) fp) vx tv) (hs : ∀ x, foldedSetIterable iter X.env x = pure x)
    (h : tDcU o0 Pt wi g tt tk tv (own.map (·.2)) σ H Q)
    (hRR : ∀ D C s' m H', Inv X pins σ H' s' → Q (.ref D) H' → s'.heap.Ns C m → FpOk X pins H' C → compPost (model X.prog X.w) X.A X.xe use Qf (.ref D) C (.ok .next) s') :
    wpAny (model X.prog X.w) X.A (comprehension (.DictComp kx vx [⟨tg, iter, ifs, 0⟩] scope pos) scope X.env pos' newDict false (eval iter X.env) use) Qf X.xe s := by
  have caught : ∀ y ∈ scope.names, y.2 = .free → ∃ c, X.env.cells.lookup y.1 = some c := by
    intro y hy e
    rcases ok.free y hy e with k | k
    · exact I.ok.has _ (.inl k)
    · exact I.ok.has _ (.inr k)
  refine wpAny_comprehension_free (use := use) rfl hs (closure_ok caught) ok.kind (fun y hy e => by rw [ok.uniq y hy, e]) ?_
  refine thn (hi.run pins s σ H _ I h) fun xv s1 hx => thn hx ?_
  rintro itv s2 ⟨it, fp, tn, J, H2, rfl, I2, T, st2, f2, q⟩
  refine wpAny_newObj_type (newEnv_comp ?_)
  obtain ⟨D, eD⟩ : ∃ D, D = s2.heap.objs.size := ⟨_, rfl⟩
  have nD : H2 D = none := I2.hok.fresh (Nat.le_of_eq eD.symm)
  have nS : (D == sysModules) = false := beq_eq_false_iff_ne.mpr (by rw [eD]; exact Ne.symm (Nat.ne_of_lt I2.big))
  obtain ⟨W, ⟨m0, w0⟩, turn⟩ := q D nD nS
  obtain ⟨s3, e3⟩ : ∃ s3 : Shared, s3 = { s2 with heap := s2.heap.push { cls := .type "dict", data := .dict #[] } } := ⟨_, rfl⟩
  obtain ⟨H3, eH3⟩ : ∃ H3, H3 = upd H2 D (o0 D) := ⟨_, rfl⟩
  rw [← eH3] at w0
  have I3 : Inv X pins σ H3 s3 := by
    rw [e3, eH3]
    refine I2.laid (t' := s2.toks) (fun b o e => Heap.get?_push_of_some _ e) (Nat.le_of_eq eD.symm) ?_
    rw [eD]
    exact ho _ s2.heap I2.big
  have g3 : s3.heap = s2.heap.push { cls := .type "dict", data := .dict #[] } := by rw [e3]
  have fpOk3 : ∀ b ∈ fp, FpOk X pins H3 b ∧ b < s3.heap.objs.size := by
    intro b hb
    obtain ⟨o, e, _⟩ := T.obj _ _ st2 b hb
    have lt : b < s2.heap.objs.size := Heap.lt_size e
    refine ⟨⟨?_, (f2 b hb).2⟩, by rw [g3, Heap.size_push]; exact Nat.lt_succ_of_lt lt⟩
    rw [eH3, upd_ne (by rw [eD]; exact Nat.ne_of_lt lt)]
    exact (f2 b hb).1
  have st3 : tn 0 s3.heap := T.keep _ _ _ st2 fun b _ o e => by rw [g3]; exact Heap.get?_push_of_some _ e
  have I4 := block_start I3 ok hN fpOk3
  obtain ⟨ce, ece⟩ : ∃ ce, ce = compEnvC scope (cellsFrom (s3.heap.objs.size + 1) scope.names (cloFrom X.env.cells scope.names [])) s3.heap.objs.size X.env := ⟨_, rfl⟩
  have pg : PG (X.blk s3 H3 scope ce fp) tg g := by rw [ece]; exact hg ..
  have pt : PTs (X.blk s3 H3 scope ce fp) ifs tt := by rw [ece]; exact ht ..
  have pk : PE (X.blk s3 H3 scope ce fp) kx tk := by rw [ece]; exact hk ..
  have pe : PE (X.blk s3 H3 scope ce fp) vx tv := by rw [ece]; exact he ..
  have cL : ce.locals = s3.heap.objs.size := by rw [ece]; rfl
  rw [← ece] at I4
  obtain ⟨s4, e4⟩ : ∃ s4 : Shared, s4 = { s3 with heap := pushCells (s3.heap.push { cls := .type "dict", data := .dict #[] }) scope.names } := ⟨_, rfl⟩
  rw [← e4] at I4
  have goal : codeAny (model X.prog X.w) X.A (.compStart (.DictComp kx vx [⟨tg, iter, ifs, 0⟩] scope pos) 0 (.ref it) (.ref D) ce) (compPost (model X.prog X.w) X.A X.xe use Qf (.ref D) s3.heap.objs.size) s4 := by
    have st4 : tn 0 s4.heap := T.keep _ _ _ st3 fun b _ o e => by rw [e4]; exact pushCells_keeps _ _ _ _ (Heap.get?_push_of_some _ e)
    have stat : ∀ {σ' : St} {H' : Hp} {s' : Shared}, Inv (X.blk s3 H3 scope ce fp) [] σ' H' s' → (∀ b ∈ fp, H' b = none) → ∀ b ∈ fp, FpOk (X.blk s3 H3 scope ce fp) [] H' b := by
      intro σ' H' s' I' hn b hb
      exact ⟨hn b hb, (I'.ok.exf b hb).1, I'.ok.exfs b hb, .inl hb, fun x c e => (I'.ok.exf b hb).2 x c e, fun p hp => absurd (show p ∈ ([] : List (Addr × Obj)) ++ [] from hp) (by simp)⟩
    have loop : codeAny (model X.prog X.w) X.A (.compLoop (.DictComp kx vx [⟨tg, iter, ifs, 0⟩] scope pos) 0 (.ref it) (.ref D) ce) (compPost (model X.prog X.w) X.A X.xe use Qf (.ref D) s3.heap.objs.size) s4 := by
      refine compLoop_anyD (fun n s' => ∃ i H', Inv (X.blk s3 H3 scope ce fp) [] (wipe σ (own.map (·.2))) H' s' ∧ tn i s'.heap ∧ (∀ b ∈ fp, H' b = none) ∧ W i n H') ?_ m0 ⟨0, H3, I4, st4, fun b hb => (fpOk3 b hb).1.1, w0⟩
      rintro n s5 ⟨i, H5, I5, st5, n5, w5⟩
      rcases turn i n H5 w5 with ⟨stop, qq⟩ | ⟨go, Nx, hNx, step⟩
      · refine thnF (T.done (X.blk s3 H3 scope ce fp) rfl rfl rfl hc i [] s5 _ H5 (fun _ _ => False) I5 (stat I5 n5) st5 stop) ?_
        rintro r s6 ⟨rfl, I6⟩
        have I7 : Inv X pins σ H5 s6 := I3.call' (ch := fp) I6.os I6.base I6.hok I6.bare fun b hb => by
          have z := (fpOk3 b hb).1
          exact ⟨z.2.2.2.1, z.2.1, z.2.2.2.2.1, z.2.2.2.2.2⟩
        have nC : H5 s3.heap.objs.size = none := by rw [← cL]; exact I6.free
        obtain ⟨m, hn, _⟩ := I6.loc
        have hn : s6.heap.Ns s3.heap.objs.size m := by rw [← cL]; exact hn
        exact hRR D s3.heap.objs.size s6 m H5 I7 qq hn (I3.fpOk (Nat.le_refl _) nC)
      · refine thnF (T.item (X.blk s3 H3 scope ce fp) rfl rfl rfl hc i [] s5 _ H5 (fun _ _ => False) I5 (stat I5 n5) st5 go) ?_
        rintro r s6 ⟨u, rfl, h6⟩
        refine thnF h6 ?_
        rintro _ s7 ⟨x, H7, I7, r7, y7, st7, n7⟩
        have I7' := I7.pinned (stat I7 n7) (T.obj _ _ st7)
        refine thnF (pg.run _ s7 _ H7 x u _ I7' r7 (step x H7 y7)) ?_
        rintro _ s8 ⟨σ8, H8, I8, hw8, q8⟩
        refine thnF (pt.run _ s8 σ8 H8 _ I8 q8) ?_
        rintro b s9 ⟨H9, I9, q9⟩
        have fin : ∀ {s' : Shared} {H' : Hp}, Inv (X.blk s3 H3 scope ce fp) ([] ++ pinsAt fp s7.heap) σ8 H' s' → Nx H' → ∃ m, m < n ∧ ∃ i H', Inv (X.blk s3 H3 scope ce fp) [] (wipe σ (own.map (·.2))) H' s' ∧ tn i s'.heap ∧ (∀ b ∈ fp, H' b = none) ∧ W i m H' := by
          intro s' H' I' nx
          obtain ⟨m', hm, w'⟩ := hNx H' nx
          have held : ∀ b ∈ fp, ∀ o, s7.heap.get? b = some o → s'.heap.get? b = some o ∧ H' b = none := by
            intro b hb o e
            have z := I'.pin (b, o) (List.mem_append_right _ (List.mem_append_right _ (mem_pinsAt hb e)))
            exact ⟨z.1, z.2.1⟩
          refine ⟨m', hm, i + 1, H', (I'.unpinned (pins := [])).weak (by rw [← hw8, wipe_length]) (fun j v e => ?_), T.keep _ _ _ st7 fun b hb o e => (held b hb o e).1, fun b hb => ?_, w'⟩
          · rw [← hw8] at e
            exact (wipe_some e).1
          · obtain ⟨o, e, _⟩ := T.obj _ _ st7 b hb
            exact (held b hb o e).2
        cases b with
        | false =>
          simp only [Bool.false_eq_true, if_false] at q9 ⊢
          exact fin I9 q9
        | true =>
          simp only [if_true] at q9 ⊢
          refine thnF (pk.run _ s9 σ8 H9 _ I9 q9) ?_
          rintro z s10 ⟨yk, H10, I10, r10, q10⟩
          refine thnF (pe.run _ s10 σ8 H10 _ I10 q10) ?_
          rintro z2 s11 ⟨yv, H11, I11, r11, ptq⟩
          refine thnF (hp (X.blk s3 H3 scope ce fp) rfl rfl rfl rfl _ σ8 H11 s11 _ D yk yv z z2 Nx I11 r10 r11 ptq) ?_
          rintro _ s12 ⟨H12, I12, nx⟩
          exact fin I12 nx
    exact codeAny_compStart_dict loop (T.self X.A 0 _ _ _ st4 loop)
  rw [e4, ece, e3, eD] at goal
  exact goal
theorem pe_dcU {kx vx tg iter : Expr} {ifs : List Expr} {scope : Scope} {own : List (Str × Nat)} {pos : Pos} {wi : TI} {g : TG} {tt : TT} {tk tv : TE} {o0 : Addr → HO} {Pt : PtR}
    (ho : ∀ (H : Hp) (h : Heap), sysModules < h.objs.size → ObjOk X.prog X.w H (h.push { cls := .type "dict", data := .dict #[] }) h.objs.size (o0 h.objs.size)) (hp : PutOk X Pt) (hc : X.calm = true) (hN : X.N.Nodup) (hi : PI X tg iter wi) (ok : BlkOk X.N X.env.scope scope own)
    (hg : ∀ (s : Shared) (H : Hp) (C : Addr) (cl : List (Str × Addr)) (fp : List Addr), PG (X.blk s H scope (compEnvC scope cl C X.env) fp) tg g) (ht : ∀ (s : Shared) (H : Hp) (C : Addr) (cl : List (Str × Addr)) (fp : List Addr), PTs (X.blk s H scope (compEnvC scope cl C X.env) fp) ifs tt)
    (hk : ∀ (s : Shared) (H : Hp) (C : Addr) (cl : List (Str × Addr)) (fp : List Addr), PE (X.blk s H scope (compEnvC scope cl C X.env) fp) kx tk)
    (he : ∀ (s : Shared) (H : Hp) (C : Addr) (cl : List (Str × Addr)) (fp : List Addr), PE (X.blk s H scope (compEnvC scope cl C X.env) fp) vx tv) (hs : ∀ x, foldedSetIterable iter X.env x = pure x := by intro _; rfl) :
    PE X (.DictComp kx vx [⟨tg, iter, ifs, 0⟩] scope pos) (tDcU o0 Pt wi g tt tk tv (own.map (·.2))) := by
  refine ⟨fun pins s σ H Q I h => ?_⟩
  rw [arm_eval_DictComp]
  refine dcU_core ho hp hc hN I hi ok hg ht hk he hs h ?_
  rintro D C s' m H' I' q hn ⟨f0, f1, f2, f3, f4, f5⟩
  refine ⟨m, hn, fun h'' sb => ?_⟩
  exact ⟨.ref D, H', I'.turned (t' := s'.toks) (fun b o hb e => (sb.2 b hb).trans e) f0 f1 f3 f4 f5, rfl, q⟩
end
end Al

set_option Elab.async false
set_option linter.all false
set_option maxRecDepth 100000
set_option maxHeartbeats 2000000
/-! Al: dict comprehensions with tuples as keys. -/
namespace Al
open PySem PySem.Spec PyProof.Rows L2
def PtN (X : Cx) : PtR := fun D y z H Nx => ∃ (es : Array DictEntry) (ep : Nat) (xs : List NK) (k : NestedKey) (a : Addr), H D = some (nd D es ep) ∧ es.toList = xs.map (nkE X.w) ∧ (xs.map (·.1)).Nodup ∧ xs.length < sizeLine ∧ y = .ref a ∧
  (∀ (Y : Cx), Y.prog = X.prog → Y.w = X.w → Y.K = X.K → ∀ (pins : List (Addr × Obj)) (σ : St) (s : Shared), Inv Y pins σ H s → (NestedIs s.heap k (.ref a) ∧ k.depth ≤ 8) ∧ ∀ x ∈ xs, NestedIs s.heap x.1 (.ref x.2.1) ∧ x.1.depth ≤ 8) ∧
  ∀ (es' : Array DictEntry) (ep' : Nat) (u : Value), RelV z u → es'.toList = (storedH xs k a u).map (nkE X.w) → ((storedH xs k a u).map (·.1)).Nodup → Nx (upd H D (nd D es' ep'))
theorem nd_ok {P : Program} {w : World} {H : Hp} {h : Heap} {D : Addr} {es : Array DictEntry} {ep : Nat} {o : Obj} (e : h.get? D = some o) (x : o.ExactDict) (d : o.data = .dict es ep) : ObjOk P w H h D (nd D es ep) :=
  ⟨⟨o, e, x, d⟩, ⟨o, e⟩, fun h1 h2 z k => by
    obtain ⟨o', e', r⟩ := z
    exact ⟨o', k o' e', r⟩⟩
theorem nd_empty {P : Program} {w : World} (H : Hp) (h : Heap) (_ : sysModules < h.objs.size) : ObjOk P w H (h.push { cls := .type "dict", data := .dict #[] }) h.objs.size (nd h.objs.size #[] 0) :=
  nd_ok (Heap.get?_push_size _ rfl) ⟨rfl, rfl, rfl⟩ rfl
theorem put_nd {X : Cx} (hu : X.A.units + 12 < cLine) : PutOk X (PtN X) := by
  intro Y hP hw hK hA pins σ H s E D y z u r Nx I ry rz h
  obtain ⟨es, ep, xs, k, a, hD, he, hn, hl, rfl, keys, nx⟩ := h
  obtain rfl : u = Value.ref a := ry
  obtain ⟨⟨k1, k2⟩, ks⟩ := keys Y hP hw hK pins σ s I
  have z : ObjOk Y.prog Y.w H s.heap D (nd D es ep) := I.hok D _ hD
  obtain ⟨o, ho, hx, hd⟩ := z.1
  have dd : s.heap.DictOfH (nestedKind Y.prog Y.w) D xs := ⟨o, es, ep, ho, hx, hd, by rw [hw]; exact he, fun x hx => ks x hx, hn⟩
  refine wpAny_dictSet_heap (knd := nestedKind Y.prog Y.w) (show Y.A.units + 8 < cLine by rw [hA]; omega) ⟨k1, k2⟩ dd ?_ (Nat.le_of_lt hl)
  intro h' hm' sb
  obtain ⟨o', es', ep', ho', hx', hd', he', _, hn'⟩ := hm'
  refine ⟨_, d_write I (by rw [hD]; exact True.intro) sb ⟨o', ho'⟩ (nd_ok ho' hx' hd'), nx es' ep' r rz ?_ hn'⟩
  rw [he', hw]
  rfl
/-! ### the mirror -/
def tPut (kvs : List (D × D)) (kd : D) (k : NestedKey) (v : D) : List (D × D) := if (tGet kvs k).isSome = true then kvs.map (fun p => if nkOf p.1 = some k then (p.1, v) else p) else kvs ++ [(kd, v)]
def dcN (nxt : Nat → Store → Option (Option D)) (t : Tg) (ti : TF) (k v : EF) (n : Nat) : Nat → Nat → Env → Store → Res D
  | 0, _, _, _ => .stuck
  | m + 1, i, ρ, S => match nxt i S with
    | none => .stuck
    | some none => .ok (.ref n) S
    | some (some d) => match tgD t d ρ with
      | none => .stuck
      | some ρ1 => (ti ρ1 S).quiet.bind fun b S1 => if b = true then (k ρ1 S1).quiet.bind fun y S2 => (v ρ1 S2).quiet.bind fun z S3 => match y, nkOf y, S3[n]? with
            | .tup _, some q, some (.tdct false acc) => if acc.length < lim ∧ q.depth ≤ 8 then dcN nxt t ti k v n m (i + 1) ρ (S3.set n (.tdct false (tPut acc y q z))) else .stuck
            | _, _, _ => .stuck
          else dcN nxt t ti k v n m (i + 1) ρ S1
def eDcN (it : IF) (t : Tg) (ti : TF) (k v : EF) (vs : List Nat) : EF := fun ρ S => (it ρ S).bind fun src S1 => dcN src.nxt t ti k v S1.length src.fuel 0 (wipeE ρ vs) (S1 ++ [.tdct false []])
section
variable {K : KW} {φ : List Addr} {H : Hp}
theorem RTs.has (k : NestedKey) {kvs : List (D × D)} {xs : List NK} (h : RTs K φ H kvs xs) : (tGet kvs k).isSome = (atKey xs k).isSome := by
  cases z : tGet kvs k with
  | none => rw [(h.get k).2 z]; rfl
  | some d => obtain ⟨a, u, v, e, _⟩ := (h.get k).1 d z; rw [e]; rfl
theorem RTs.repl {dv : D} {v : V} {u : Value} (k : NestedKey) (rel : RelV v u) (rv : RV K φ H dv v) : ∀ {kvs : List (D × D)} {xs : List NK}, RTs K φ H kvs xs → RTs K φ H (kvs.map fun p => if nkOf p.1 = some k then (p.1, dv) else p) (xs.map (putAt k u))
  | [], xs, h => by rw [show xs = [] from h]; rfl
  | p :: kvs, xs, h => by
    obtain ⟨x, r, rfl, ⟨h0, h1, h2, w, h3, h4⟩, h5⟩ := h
    rw [List.map_cons, List.map_cons]
    refine ⟨_, _, rfl, ?_, RTs.repl k rel rv h5⟩
    unfold putAt
    by_cases e : x.1 = k
    · rw [if_pos e, if_pos (by rw [h0, e])]
      exact ⟨h0, h1, h2, v, rel, rv⟩
    · rw [if_neg e, if_neg (by rw [h0]; exact fun z => e (Option.some.inj z))]
      exact ⟨h0, h1, h2, w, h3, h4⟩
theorem RTs.append : ∀ {kvs ls : List (D × D)} {xs ys : List NK}, RTs K φ H kvs xs → RTs K φ H ls ys → RTs K φ H (kvs ++ ls) (xs ++ ys)
  | [], ls, xs, ys, h, h' => by rw [show xs = [] from h]; exact h'
  | p :: kvs, ls, xs, ys, h, h' => by
    obtain ⟨x, r, rfl, h1, h2⟩ := h
    exact ⟨x, r ++ ys, rfl, h1, RTs.append h2 h'⟩
theorem RTs.put {kd dv : D} {a : Addr} {v : V} {u : Value} {k : NestedKey} (hk : nkOf kd = some k) (h8 : k.depth ≤ 8) (rk : RV K φ H kd (.ref a)) (rel : RelV v u) (rv : RV K φ H dv v) {kvs : List (D × D)} {xs : List NK} (h : RTs K φ H kvs xs) : RTs K φ H (tPut kvs kd k dv) (storedH xs k a u) := by
  unfold tPut storedH
  rw [h.has k]
  split
  · exact h.repl k rel rv
  · exact h.append (ls := [(kd, dv)]) (ys := [(k, a, u)]) ⟨_, [], rfl, ⟨hk, h8, rk, v, rel, rv⟩, rfl⟩
end
section
variable {X : Cx} {W : WX}
theorem rts_keys {pins : List (Addr × Obj)} {σ : St} {H : Hp} {s : Shared} {φ : List Addr} (I : Inv X pins σ H s) : ∀ {kvs : List (D × D)} {xs : List NK}, RTs X.kw φ H kvs xs → ∀ x ∈ xs, NestedIs s.heap x.1 (.ref x.2.1) ∧ x.1.depth ≤ 8
  | [], xs, r, x, hx => by
    rw [show xs = [] from r] at hx
    cases hx
  | q :: qs, xs, r, x, hx => by
    obtain ⟨y, ys, rfl, ⟨a1, a2, a3, _⟩, a4⟩ := r
    rcases List.mem_cons.mp hx with rfl | hx
    · exact ⟨nk_is I a3 rfl a1, a2⟩
    · exact rts_keys I a4 x hx
theorem dcN_run {σ : St} {H : Hp} {Q : VK} {Fi : IF} {t : Tg} {Ti : TF} {Fk Fv : EF} {vs : List Nat} (ht : ∀ i ∈ t.slots, i ∈ vs) (h : tF X.kw W (eDcN Fi t Ti Fk Fv vs) σ H Q) :
    tDcU (fun D => nd D #[] 0) (PtN X) (tFI X.kw W Fi) (tgV X.kw t) (tFT X.kw W0 Ti) (tF X.kw W0 Fk) (tF X.kw W0 Fv) vs σ H Q := by
  obtain ⟨φ, ρ, S, rh, rl, f⟩ := h
  refine ⟨φ, ρ, S, rh, rl, ?_⟩
  unfold eDcN at f
  cases z : Fi ρ S with
  | stuck => rw [z] at f; exact f.elim
  | exc x S1 => rw [z] at f; exact f
  | ok src S1 =>
    rw [z] at f
    intro φ0 H0 J x0 rh0 ok Dd hD hsm
    have f : Fin X.kw W φ H σ (dcN src.nxt t Ti Fk Fv S1.length src.fuel 0 (wipeE ρ vs) (S1 ++ [.tdct false []])) Q := f
    have x1 := Ext.num (K := X.kw) (φ := φ0) (o := nd Dd #[] 0) hD
    have rh1 := rh0.alloc (x := .tdct false []) (o := nd Dd #[] 0) hD ⟨#[], 0, [], by rw [if_neg Bool.false_ne_true]; exact upd_same, rfl, List.nodup_nil, hsm, rfl⟩
    refine ⟨fun i m H1 => ∃ φ1 S2, Ext X.kw (φ0 ++ [Dd]) (upd H0 Dd (nd Dd #[] 0)) φ1 H1 ∧ RH X.kw φ1 H1 S2 ∧ Fin X.kw W φ1 H1 σ (dcN src.nxt t Ti Fk Fv S1.length m i (wipeE ρ vs) S2) Q, ⟨src.fuel, _, _, .refl, rh1, (f.ext x0).ext x1⟩, ?_⟩
    rintro i m H1 ⟨φ1, S2, x2, rh2, f1⟩
    have gD : φ1[S1.length]? = some Dd := pre_get x2.pre (by rw [← rh0.len]; simp)
    cases m with
    | zero => exact f1.elim
    | succ n =>
      have o := ok i φ1 H1 S2 (x1.trans x2) rh2
      unfold dcN at f1
      split at f1
      · exact f1.elim
      · rename_i e
        exact .inl ⟨o.2 e, f1.ok_of rh2 (rv_ref gD)⟩
      · rename_i d e
        have o := o.1 d e
        refine .inr ⟨o.1, fun H'' => ∃ φ1 S2, Ext X.kw (φ0 ++ [Dd]) (upd H0 Dd (nd Dd #[] 0)) φ1 H'' ∧ RH X.kw φ1 H'' S2 ∧ Fin X.kw W φ1 H'' σ (dcN src.nxt t Ti Fk Fv S1.length n (i + 1) (wipeE ρ vs) S2) Q, fun H'' h => ⟨n, Nat.lt_succ_self n, h⟩, fun xv H2 y => ?_⟩
        obtain ⟨x3, rh3, rv3⟩ := o.2 xv H2 y
        split at f1
        · exact f1.elim
        · rename_i ρ2 er
          have rlw : RL X.kw φ1 H2 (L2.wipe σ vs) (wipeE ρ vs) := ((((rl.ext x0).ext x1).ext x2).ext x3).wipe vs
          refine tgV_run er rv3 rlw fun σ3 rl3 hw => ⟨?_, ?_⟩
          · rw [hw vs ht, wipe_wipe]
          · refine ⟨φ1, ρ2, S2, rh3, rl3, ?_⟩
            have f2 := f1.ext x3
            cases zt : Ti ρ2 S2 with
            | stuck => rw [zt] at f2; exact f2.elim
            | exc xx S3 => rw [zt] at f2; exact f2.elim
            | ok b S3 =>
              rw [zt] at f2
              intro φ4 H4 x4 rh4
              cases b with
              | false =>
                rw [if_neg Bool.false_ne_true]
                have f3 : Fin X.kw W φ1 H2 σ (dcN src.nxt t Ti Fk Fv S1.length n (i + 1) (wipeE ρ vs) S3) Q := f2
                exact ⟨φ4, S3, (x2.trans x3).trans x4, rh4, f3.ext x4⟩
              | true =>
                rw [if_pos rfl]
                refine ⟨φ4, ρ2, S3, rh4, rl3.ext x4, ?_⟩
                have f3 : Fin X.kw W φ1 H2 σ ((Fk ρ2 S3).quiet.bind fun y S2 => (Fv ρ2 S2).quiet.bind fun z S3 => match y, nkOf y, S3[S1.length]? with
                  | .tup _, some q, some (.tdct false acc) => if acc.length < lim ∧ q.depth ≤ 8 then dcN src.nxt t Ti Fk Fv S1.length n (i + 1) (wipeE ρ vs) (S3.set S1.length (.tdct false (tPut acc y q z))) else .stuck
                  | _, _, _ => .stuck) Q := f2
                cases zk : Fk ρ2 S3 with
                | stuck => rw [zk] at f3; exact f3.elim
                | exc xx S4 => rw [zk] at f3; exact f3.elim
                | ok kd S4 =>
                  rw [zk] at f3
                  intro φ5 H5 ky x5 rh5 rv5
                  refine ⟨φ5, ρ2, S4, rh5, (rl3.ext x4).ext x5, ?_⟩
                  simp only [Res.quiet, Res.bind_ok] at f3
                  cases zv : Fv ρ2 S4 with
                  | stuck => rw [zv] at f3; exact f3.elim
                  | exc xx S5 => rw [zv] at f3; exact f3.elim
                  | ok vd S5 =>
                    rw [zv] at f3
                    intro φ6 H6 vy x6 rh6 rv6
                    simp only [Res.bind_ok] at f3
                    split at f3
                    · rename_i ds q acc ea eq
                      split at f3
                      · rename_i hl
                        have gD6 : φ6[S1.length]? = some Dd := pre_get (((x3.trans x4).trans x5).trans x6).pre gD
                        have ro := rh6.at_ _ _ _ ea gD6
                        obtain ⟨es, ep, xs, h1, h2, h3, h4, rt⟩ := id ro
                        rw [if_neg Bool.false_ne_true] at h1
                        obtain ⟨p, pvs, ep1, sq, _⟩ := rv5.tup_
                        subst ep1
                        have rk := rv5.ext x6
                        refine ⟨es, ep, xs, q, p, h1, h2, h3, by rw [← rt.length]; exact hl.1, rfl, ?_, ?_⟩
                        · intro Y hP hw' hK pins' σ' s' I'
                          have ekw : Y.kw = X.kw := by show (⟨Y.K, Y.w⟩ : KW) = ⟨X.K, X.w⟩; rw [hw', hK]
                          refine ⟨⟨nk_is (X := Y) (φ := φ6) (v := .ref p) I' (by rw [ekw]; exact rk) (show RelV (.ref p) (Value.ref p) from rfl) eq, hl.2⟩, ?_⟩
                          exact rts_keys I' (by rw [ekw]; exact rt)
                        · intro es' ep' u rel he' hn'
                          have mu : Mu (H6 Dd) := (show Dob (nd Dd es ep) from .inr ⟨Dd, es, ep, rfl⟩).mu h1
                          have x7 : Ext X.kw φ6 H6 φ6 (upd H6 Dd (nd Dd es' ep')) := Ext.wr mu
                          have rt7 := (rt.put eq hl.2 rk rel rv6).ext x7
                          have rh7 := rh6.set (x := .tdct false (tPut acc (.tup ds) q vd)) (o := nd Dd es' ep') gD6 mu (fun q' hq => by rw [h1] at hq; cases hq) ⟨es', ep', _, by rw [if_neg Bool.false_ne_true]; exact upd_same, he', hn', h4, rt7⟩
                          exact ⟨φ6, _, ((((x2.trans x3).trans x4).trans x5).trans x6).trans x7, rh7, (((f3.ext x4).ext x5).ext x6).ext x7⟩
                      · exact f3.elim
                    · exact f3.elim
variable {kx vx tg iter : Expr} {ifs : List Expr} {scope : Scope} {pos : Pos} {Fi : IF} {t : Tg} {Ti : TF} {Fk Fv : EF}
theorem ae_dcN (own : List (Str × Nat)) (hu : X.A.units + 12 < cLine) (hc : X.calm = true) (hN : X.N.Nodup) (hi : AI X W tg iter Fi) (ok : BlkOk X.N X.env.scope scope own) (ht0 : ∀ i ∈ t.slots, i ∈ own.map (·.2))
    (hg : ∀ (s : Shared) (H : Hp) (C : Addr) (cl : List (Str × Addr)) (fp : List Addr), AG (X.blk s H scope (compEnvC scope cl C X.env) fp) tg t) (ht : ∀ (s : Shared) (H : Hp) (C : Addr) (cl : List (Str × Addr)) (fp : List Addr), ATs (X.blk s H scope (compEnvC scope cl C X.env) fp) W0 ifs Ti)
    (hk : ∀ (s : Shared) (H : Hp) (C : Addr) (cl : List (Str × Addr)) (fp : List Addr), AE (X.blk s H scope (compEnvC scope cl C X.env) fp) W0 kx Fk)
    (he : ∀ (s : Shared) (H : Hp) (C : Addr) (cl : List (Str × Addr)) (fp : List Addr), AE (X.blk s H scope (compEnvC scope cl C X.env) fp) W0 vx Fv) (hs : ∀ x, foldedSetIterable iter X.env x = pure x := by intro _; rfl) :
    AE X W (.DictComp kx vx [⟨tg, iter, ifs, 0⟩] scope pos) (eDcN Fi t Ti Fk Fv (own.map (·.2))) :=
  pe_mono (pe_dcU (g := tgV X.kw t) (tt := tFT X.kw W0 Ti) (tk := tF X.kw W0 Fk) (tv := tF X.kw W0 Fv) (o0 := fun D => nd D #[] 0) (Pt := PtN X) nd_empty (put_nd hu) hc hN hi ok hg ht hk he hs) fun σ H Q h => dcN_run ht0 h
end
end Al

set_option Elab.async false
set_option linter.all false
set_option maxRecDepth 100000
set_option maxHeartbeats 2000000
/-! Al: list comprehensions with two fors. -/
namespace Al
open PySem PySem.Spec PyProof.Rows L2
theorem q_ok {α : Type} (a : α) (S : Store) : (Res.ok a S).quiet = .ok a S := rfl
/-- the turns of the inner for: the list has the number n -/
def lc2I (nxt : Nat → Store → Option (Option D)) (t : Tg) (ti : TF) (el : EF) (n : Nat) : Nat → Nat → Env → Store → Res Unit
  | 0, _, _, _ => .stuck
  | m + 1, i, ρ, S => match nxt i S with
    | none => .stuck
    | some none => .ok () S
    | some (some d) => match tgD t d ρ with
      | none => .stuck
      | some ρ1 => (ti ρ1 S).quiet.bind fun b S1 => if b = true then (el ρ1 S1).quiet.bind fun y S2 => match S2[n]? with
            | some (.lst acc) => if acc.length < lim then lc2I nxt t ti el n m (i + 1) ρ (S2.set n (.lst (acc ++ [y]))) else .stuck
            | _ => .stuck
          else lc2I nxt t ti el n m (i + 1) ρ S1
def lc2F (nxt : Nat → Store → Option (Option D)) (t : Tg) (ti : TF) (it1 : IF) (t1 : Tg) (ti1 : TF) (el : EF) (vs1 : List Nat) (n : Nat) : Nat → Nat → Env → Store → Res D
  | 0, _, _, _ => .stuck
  | m + 1, i, ρ, S => match nxt i S with
    | none => .stuck
    | some none => .ok (.ref n) S
    | some (some d) => match tgD t d ρ with
      | none => .stuck
      | some ρ1 => (ti ρ1 S).quiet.bind fun b S1 => if b = true then (it1 ρ1 S1).quiet.bind fun src S2 => (lc2I src.nxt t1 ti1 el n src.fuel 0 (wipeE ρ1 vs1) S2).quiet.bind fun _ S3 => lc2F nxt t ti it1 t1 ti1 el vs1 n m (i + 1) ρ S3
          else lc2F nxt t ti it1 t1 ti1 el vs1 n m (i + 1) ρ S1
def eLc2 (it : IF) (t : Tg) (ti : TF) (it1 : IF) (t1 : Tg) (ti1 : TF) (el : EF) (vs vs1 : List Nat) : EF := fun ρ S => (it ρ S).bind fun src S1 => lc2F src.nxt t ti it1 t1 ti1 el vs1 S1.length src.fuel 0 (wipeE ρ vs) (S1 ++ [.lst []])
section
variable {X : Cx} {W : WX}
theorem lc2_run {σ : St} {H : Hp} {Q : VK} {Fi F1 : IF} {t t1 : Tg} {Ti T1 : TF} {Fe : EF} {vs vs1 : List Nat} {K : KW} (ht : ∀ i ∈ t.slots, i ∈ vs) (ht1 : ∀ i ∈ t1.slots, i ∈ vs1) (h : tF K W (eLc2 Fi t Ti F1 t1 T1 Fe vs vs1) σ H Q) :
    tLc2 (tFI K W Fi) (tgV K t) (tFT K W0 Ti) (tFI K W0 F1) (tgV K t1) (tFT K W0 T1) (tF K W0 Fe) vs vs1 σ H Q := by
  obtain ⟨φ, ρ, S, rh, rl, f⟩ := h
  refine ⟨φ, ρ, S, rh, rl, ?_⟩
  unfold eLc2 at f
  cases z : Fi ρ S with
  | stuck => rw [z] at f; exact f.elim
  | exc x S1 => rw [z] at f; exact f
  | ok src S1 =>
    rw [z] at f
    intro φ0 H0 J x0 rh0 ok Dd hD
    have f : Fin K W φ H σ (lc2F src.nxt t Ti F1 t1 T1 Fe vs1 S1.length src.fuel 0 (wipeE ρ vs) (S1 ++ [.lst []])) Q := f
    have x1 := Ext.num (K := K) (φ := φ0) (o := HO.lst []) hD
    have rh1 := rh0.alloc (x := .lst []) (o := HO.lst []) hD ⟨[], upd_same, .nil⟩
    refine ⟨fun i m H1 => ∃ φ1 S2, Ext K (φ0 ++ [Dd]) (upd H0 Dd (.lst [])) φ1 H1 ∧ RH K φ1 H1 S2 ∧ Fin K W φ1 H1 σ (lc2F src.nxt t Ti F1 t1 T1 Fe vs1 S1.length m i (wipeE ρ vs) S2) Q, ⟨src.fuel, _, _, .refl, rh1, (f.ext x0).ext x1⟩, ?_⟩
    rintro i m H1 ⟨φ1, S2, x2, rh2, f1⟩
    have gD : φ1[S1.length]? = some Dd := pre_get x2.pre (by rw [← rh0.len]; simp)
    cases m with
    | zero => exact f1.elim
    | succ n =>
      have o := ok i φ1 H1 S2 (x1.trans x2) rh2
      unfold lc2F at f1
      split at f1
      · exact f1.elim
      · rename_i e
        exact .inl ⟨o.2 e, f1.ok_of rh2 (rv_ref gD)⟩
      · rename_i d e
        have o := o.1 d e
        refine .inr ⟨o.1, fun H'' => ∃ φ1 S2, Ext K (φ0 ++ [Dd]) (upd H0 Dd (.lst [])) φ1 H'' ∧ RH K φ1 H'' S2 ∧ Fin K W φ1 H'' σ (lc2F src.nxt t Ti F1 t1 T1 Fe vs1 S1.length n (i + 1) (wipeE ρ vs) S2) Q, fun H'' h => ⟨n, Nat.lt_succ_self n, h⟩, fun xv H2 y => ?_⟩
        obtain ⟨x3, rh3, rv3⟩ := o.2 xv H2 y
        split at f1
        · exact f1.elim
        · rename_i ρ2 er
          have rlw : RL K φ1 H2 (L2.wipe σ vs) (wipeE ρ vs) := ((((rl.ext x0).ext x1).ext x2).ext x3).wipe vs
          refine tgV_run er rv3 rlw fun σ3 rl3 hw => ⟨?_, ?_⟩
          · rw [hw vs ht, wipe_wipe]
          · refine ⟨φ1, ρ2, S2, rh3, rl3, ?_⟩
            have f2 := f1.ext x3
            cases zt : Ti ρ2 S2 with
            | stuck => rw [zt] at f2; exact f2.elim
            | exc xx S3 => rw [zt] at f2; exact f2.elim
            | ok b S3 =>
              rw [zt] at f2
              intro φ4 H4 x4 rh4
              cases b with
              | false =>
                rw [if_neg Bool.false_ne_true]
                have f3 : Fin K W φ1 H2 σ (lc2F src.nxt t Ti F1 t1 T1 Fe vs1 S1.length n (i + 1) (wipeE ρ vs) S3) Q := f2
                exact ⟨φ4, S3, (x2.trans x3).trans x4, rh4, f3.ext x4⟩
              | true =>
                rw [if_pos rfl]
                refine ⟨φ4, ρ2, S3, rh4, rl3.ext x4, ?_⟩
                have f3 : Fin K W φ1 H2 σ ((F1 ρ2 S3).quiet.bind fun src1 S2 => (lc2I src1.nxt t1 T1 Fe S1.length src1.fuel 0 (wipeE ρ2 vs1) S2).quiet.bind fun _ S3 => lc2F src.nxt t Ti F1 t1 T1 Fe vs1 S1.length n (i + 1) (wipeE ρ vs) S3) Q := f2
                cases zi : F1 ρ2 S3 with
                | stuck => rw [zi] at f3; exact f3.elim
                | exc xx S4 => rw [zi] at f3; exact f3.elim
                | ok src1 S4 =>
                  rw [zi] at f3
                  simp only [q_ok, Res.bind_ok] at f3
                  intro φ5 H5 J1 x5 rh5 ok1
                  have f5 := (f3.ext x4).ext x5
                  have rl5 := (rl3.ext x4).ext x5
                  have gD5 : φ5[S1.length]? = some Dd := pre_get ((x3.trans x4).trans x5).pre gD
                  refine ⟨fun j k H6 => ∃ φ6 S6, Ext K φ5 H5 φ6 H6 ∧ RH K φ6 H6 S6 ∧ Fin K W φ6 H6 σ ((lc2I src1.nxt t1 T1 Fe S1.length k j (wipeE ρ2 vs1) S6).quiet.bind fun _ S3 => lc2F src.nxt t Ti F1 t1 T1 Fe vs1 S1.length n (i + 1) (wipeE ρ vs) S3) Q, ⟨src1.fuel, φ5, S4, .refl, rh5, f5⟩, ?_⟩
                  rintro j k H6 ⟨φ6, S6, x6, rh6, f6⟩
                  have gD6 : φ6[S1.length]? = some Dd := pre_get x6.pre gD5
                  cases k with
                  | zero => exact f6.elim
                  | succ k =>
                    have o1 := ok1 j φ6 H6 S6 x6 rh6
                    unfold lc2I at f6
                    cases znx : src1.nxt j S6 with
                    | none => rw [znx] at f6; exact f6.elim
                    | some od =>
                      cases od with
                      | none =>
                        rw [znx] at f6
                        exact .inl ⟨o1.2 znx, φ6, S6, (((x2.trans x3).trans x4).trans x5).trans x6, rh6, f6⟩
                      | some d1 =>
                        rw [znx] at f6
                        simp only at f6
                        have o1 := o1.1 d1 znx
                        refine .inr ⟨o1.1, fun H'' => ∃ φ6 S6, Ext K φ5 H5 φ6 H'' ∧ RH K φ6 H'' S6 ∧ Fin K W φ6 H'' σ ((lc2I src1.nxt t1 T1 Fe S1.length k (j + 1) (wipeE ρ2 vs1) S6).quiet.bind fun _ S3 => lc2F src.nxt t Ti F1 t1 T1 Fe vs1 S1.length n (i + 1) (wipeE ρ vs) S3) Q, fun H'' h => ⟨k, Nat.lt_succ_self k, h⟩, fun yv H7 y1 => ?_⟩
                        obtain ⟨x7, rh7, rv7⟩ := o1.2 yv H7 y1
                        cases zg : tgD t1 d1 (wipeE ρ2 vs1) with
                        | none => rw [zg] at f6; exact f6.elim
                        | some ρ3 =>
                          rw [zg] at f6
                          simp only at f6
                          have rlw1 : RL K φ6 H7 (L2.wipe σ3 vs1) (wipeE ρ2 vs1) := ((rl5.ext x6).ext x7).wipe vs1
                          refine tgV_run zg rv7 rlw1 fun σ4 rl4 hw1 => ⟨?_, ?_⟩
                          · rw [hw1 vs1 ht1, wipe_wipe]
                          · refine ⟨φ6, ρ3, S6, rh7, rl4, ?_⟩
                            have f7 := f6.ext x7
                            cases zt1 : T1 ρ3 S6 with
                            | stuck => rw [zt1] at f7; exact f7.elim
                            | exc xx S7 => rw [zt1] at f7; exact f7.elim
                            | ok b1 S7 =>
                              rw [zt1] at f7
                              simp only [q_ok, Res.bind_ok] at f7
                              intro φ8 H8 x8 rh8
                              cases b1 with
                              | false =>
                                rw [if_neg Bool.false_ne_true] at f7 ⊢
                                exact ⟨φ8, S7, (x6.trans x7).trans x8, rh8, f7.ext x8⟩
                              | true =>
                                rw [if_pos rfl] at f7 ⊢
                                refine ⟨φ8, ρ3, S7, rh8, rl4.ext x8, ?_⟩
                                cases ze : Fe ρ3 S7 with
                                | stuck => rw [ze] at f7; exact f7.elim
                                | exc xx S8 => rw [ze] at f7; exact f7.elim
                                | ok yd S8 =>
                                  rw [ze] at f7
                                  simp only [q_ok, Res.bind_ok] at f7
                                  intro φ9 H9 yy x9 rh9 rv9
                                  cases zs : S8[S1.length]? with
                                  | none => rw [zs] at f7; exact f7.elim
                                  | some ob =>
                                    rw [zs] at f7
                                    cases ob with
                                    | lst acc =>
                                      simp only at f7
                                      by_cases hl : acc.length < lim
                                      · rw [if_pos hl] at f7
                                        have gD9 : φ9[S1.length]? = some Dd := pre_get ((x7.trans x8).trans x9).pre gD6
                                        obtain ⟨ws, hw9, r9⟩ := rh9.at_ _ _ _ zs gD9
                                        refine ⟨ws, hw9, by rw [← r9.length, lim_eq]; exact hl, ?_⟩
                                        have x10 := Ext.wr (K := K) (φ := φ9) (o := HO.lst (ws ++ [yy])) (mu_lst hw9)
                                        refine ⟨φ9, _, (((x6.trans x7).trans x8).trans x9).trans x10, rh9.set (x := .lst (acc ++ [yd])) gD9 (mu_lst hw9) (fun q hq => by rw [hw9] at hq; cases hq) ⟨_, upd_same, (r9.append (.cons rv9 .nil)).ext x10⟩, ((f7.ext x8).ext x9).ext x10⟩
                                      · rw [if_neg hl] at f7
                                        exact f7.elim
                                    | dct _ => exact f7.elim
                                    | ins _ _ => exact f7.elim
                                    | ldct _ => exact f7.elim
                                    | tdct _ _ => exact f7.elim
variable {elt tg iter tg1 iter1 : Expr} {ifs ifs1 : List Expr} {scope : Scope} {pos spos : Pos} {Fi F1 : IF} {t t1 : Tg} {Ti T1 : TF} {Fe : EF}
theorem ae_lc2 (own : List (Str × Nat)) (vs1 : List Nat) (hc : X.calm = true) (hN : X.N.Nodup) (hi : AI X W tg iter Fi) (ok : BlkOk X.N X.env.scope scope own) (ht0 : ∀ i ∈ t.slots, i ∈ own.map (·.2)) (ht1' : ∀ i ∈ t1.slots, i ∈ vs1) (hv : ∀ i ∈ vs1, i ∈ own.map (·.2))
    (hg : ∀ (s : Shared) (H : Hp) (C : Addr) (cl : List (Str × Addr)) (fp : List Addr), AG (X.blk s H scope (compEnvC scope cl C X.env) fp) tg t) (ht : ∀ (s : Shared) (H : Hp) (C : Addr) (cl : List (Str × Addr)) (fp : List Addr), ATs (X.blk s H scope (compEnvC scope cl C X.env) fp) W0 ifs Ti)
    (hi1 : ∀ (s : Shared) (H : Hp) (C : Addr) (cl : List (Str × Addr)) (fp : List Addr), AI (X.blk s H scope (compEnvC scope cl C X.env) fp) W0 tg1 iter1 F1)
    (hg1 : ∀ (s : Shared) (H : Hp) (C : Addr) (cl : List (Str × Addr)) (fp : List Addr), AG (X.blk s H scope (compEnvC scope cl C X.env) fp) tg1 t1) (ht1 : ∀ (s : Shared) (H : Hp) (C : Addr) (cl : List (Str × Addr)) (fp : List Addr), ATs (X.blk s H scope (compEnvC scope cl C X.env) fp) W0 ifs1 T1)
    (he : ∀ (s : Shared) (H : Hp) (C : Addr) (cl : List (Str × Addr)) (fp : List Addr), AE (X.blk s H scope (compEnvC scope cl C X.env) fp) W0 elt Fe) (hs : ∀ x, foldedSetIterable iter X.env x = pure x := by intro _; rfl) (hs1 : ∀ env x, foldedSetIterable iter1 env x = pure x := by intro _ _; rfl) :
    AE X W (.ListComp elt [⟨tg, iter, ifs, 0⟩, ⟨tg1, iter1, ifs1, 0⟩] scope pos) (eLc2 Fi t Ti F1 t1 T1 Fe (own.map (·.2)) vs1) :=
  pe_mono (pe_lc2 (g := tgV X.kw t) (tt := tFT X.kw W0 Ti) (g1 := tgV X.kw t1) (tt1 := tFT X.kw W0 T1) (wi1 := tFI X.kw W0 F1) (te := tF X.kw W0 Fe) hc hN hi ok hv hg ht hi1 hg1 ht1 he hs hs1) fun σ H Q h => lc2_run ht0 ht1' h
theorem as_setLc2 (i : Nat) (own : List (Str × Nat)) (vs1 : List Nat) {y : Str} {py : Pos} (hc : X.calm = true) (hN : X.N.Nodup) (hsw : swapsWith (.ListComp elt [⟨tg, iter, ifs, 0⟩, ⟨tg1, iter1, ifs1, 0⟩] scope pos) (some (.Name y py)) spos.line X.env = pure true) (hi : AI X W tg iter Fi) (ok : BlkOk X.N X.env.scope scope own) (ht0 : ∀ i ∈ t.slots, i ∈ own.map (·.2)) (ht1' : ∀ i ∈ t1.slots, i ∈ vs1) (hv : ∀ i ∈ vs1, i ∈ own.map (·.2))
    (hg : ∀ (s : Shared) (H : Hp) (C : Addr) (cl : List (Str × Addr)) (fp : List Addr), AG (X.blk s H scope (compEnvC scope cl C X.env) fp) tg t) (ht : ∀ (s : Shared) (H : Hp) (C : Addr) (cl : List (Str × Addr)) (fp : List Addr), ATs (X.blk s H scope (compEnvC scope cl C X.env) fp) W0 ifs Ti)
    (hi1 : ∀ (s : Shared) (H : Hp) (C : Addr) (cl : List (Str × Addr)) (fp : List Addr), AI (X.blk s H scope (compEnvC scope cl C X.env) fp) W0 tg1 iter1 F1)
    (hg1 : ∀ (s : Shared) (H : Hp) (C : Addr) (cl : List (Str × Addr)) (fp : List Addr), AG (X.blk s H scope (compEnvC scope cl C X.env) fp) tg1 t1) (ht1 : ∀ (s : Shared) (H : Hp) (C : Addr) (cl : List (Str × Addr)) (fp : List Addr), ATs (X.blk s H scope (compEnvC scope cl C X.env) fp) W0 ifs1 T1)
    (he : ∀ (s : Shared) (H : Hp) (C : Addr) (cl : List (Str × Addr)) (fp : List Addr), AE (X.blk s H scope (compEnvC scope cl C X.env) fp) W0 elt Fe) (hy : X.N[i]? = some y := by rfl) (hyl : X.env.scope.names.lookup y = some .local := by rfl) (hs : ∀ x, foldedSetIterable iter X.env x = pure x := by intro _; rfl) (hs1 : ∀ env x, foldedSetIterable iter1 env x = pure x := by intro _ _; rfl) :
    AS X W (.Assign [.Name y py] (.ListComp elt [⟨tg, iter, ifs, 0⟩, ⟨tg1, iter1, ifs1, 0⟩] scope pos) spos) (sSet i (eLc2 Fi t Ti F1 t1 T1 Fe (own.map (·.2)) vs1)) := by
  refine ps_mono (ps_setLc2 (g := tgV X.kw t) (tt := tFT X.kw W0 Ti) (g1 := tgV X.kw t1) (tt1 := tFT X.kw W0 T1) (wi1 := tFI X.kw W0 F1) (te := tF X.kw W0 Fe) hc hN hy hyl hsw hi ok hv hg ht hi1 hg1 ht1 he hs hs1) fun D σ H ⟨φ, ρ, S, rh, rl, f⟩ => lc2_run ht0 ht1' ⟨φ, ρ, S, rh, rl, (Fin.bindS trivial f).imp ?_⟩
  rintro v H1 ⟨φ1, S1, d, e1, rh1, rv1, f1⟩
  exact FinS.nx_of f1 rh1 ((rl.ext e1).set i rv1)
end
end Al

set_option Elab.async false
set_option linter.all false
set_option maxRecDepth 100000
set_option maxHeartbeats 1000000
/-! Al: is None, zip, dicts compared, len(set(..)), list * n, join of a tuple, x[::-1]. -/
namespace Al
open PySem PySem.Spec PyProof.Rows L2
/-! ### is None -/
def isNon : D → Bool
  | .non => true
  | _ => false
def isO : F2
  | a, .non, S => some (.bl (isNon a), S)
  | _, _, _ => none
def isNotO : F2
  | a, .non, S => some (.bl (!isNon a), S)
  | _, _, _ => none
theorem isNon_ok {K : KW} {φ : List Addr} {H : Hp} {a : D} {x : V} (r : RV K φ H a x) : decide (x = .non) = isNon a := by
  cases a with
  | non => rw [r.non_]; rfl
  | bl b => rw [r.bl_]; rfl
  | int b => rw [r.int_]; rfl
  | str b => rw [r.str_]; rfl
  | tup b => obtain ⟨p, vs, rfl, _⟩ := r.tup_; rfl
  | ref b => obtain ⟨p, rfl, _⟩ := r.ref_; rfl
  | scl b => obtain ⟨p, vs, rfl, _⟩ := r.scl_; rfl
section
variable {X : Cx} {W : WX}
theorem op_isA : OpA X (compareOp .Is) isO := by
  intro pins s σ H x y v u Q I rx ry h
  obtain ⟨φ, S, a, b, d, S', rh, ra, rb, e, k⟩ := h
  unfold isO at e
  split at e
  · cases e
    refine L2.op_isN pins s σ H x y v u Q I rx ry ⟨rb.non_, ?_⟩
    rw [isNon_ok ra]
    exact k φ H _ .refl rh rv_bl
  · cases e
theorem op_isNotA : OpA X (compareOp .IsNot) isNotO := by
  intro pins s σ H x y v u Q I rx ry h
  obtain ⟨φ, S, a, b, d, S', rh, ra, rb, e, k⟩ := h
  unfold isNotO at e
  split at e
  · cases e
    refine L2.op_notN pins s σ H x y v u Q I rx ry ⟨rb.non_, ?_⟩
    rw [isNon_ok ra]
    exact k φ H _ .refl rh rv_bl
  · cases e
/-! ### a list times an int -/
def repO : F2
  | .int i, .int j, S => if smallI i || smallI j then some (.int (i * j), S) else none
  | .ref n, .int k, S => match S[n]? with
    | some (.lst xs) => if -(2 ^ 63) ≤ k ∧ k < 2 ^ 63 ∧ xs.length * k.toNat ≤ lim then some (.ref S.length, S ++ [.lst (List.replicate k.toNat xs).flatten]) else none
    | _ => none
  | _, _, _ => none
theorem RVs.rep {K : KW} {φ : List Addr} {H : Hp} {ds : List D} {vs : List V} (r : RVs K φ H ds vs) : ∀ n : Nat, RVs K φ H (List.replicate n ds).flatten (List.replicate n vs).flatten
  | 0 => by simpa using (RVs.nil : RVs K φ H [] [])
  | n + 1 => by
    rw [List.replicate_succ, List.replicate_succ, List.flatten_cons, List.flatten_cons]
    exact r.append (RVs.rep r n)
theorem op_repA : OpA X (binaryOp .Mult) repO := by
  intro pins s σ H x y v u Q I rx ry h
  obtain ⟨φ, S, a, b, d, S', rh, ra, rb, e, k⟩ := h
  unfold repO at e
  split at e
  · exact op_mulA pins s σ H x y v u Q I rx ry ⟨φ, S, _, _, d, S', rh, ra, rb, e, k⟩
  · split at e
    · rename_i n kk _ xs en
      split at e
      · cases e
        rename_i hc
        obtain ⟨p, rfl, g, vs, h1, r⟩ := rh.obj en ra
        refine L2.op_rep pins s σ H _ _ v u Q I rx ry ⟨p, kk, vs, rfl, rb.int_, h1, hc.1, hc.2.1, by rw [← r.length, lim_eq]; exact hc.2.2, ?_⟩
        exact new_list rh (r.rep _) k
      · cases e
    · cases e
  · cases e
/-! ### join of a tuple -/
def joinTM : FM
  | .str s, [.tup ds], S => (mapO asStr ds).bind fun l => if (l.map List.length).sum + l.length * s.length ≤ lim then some (.str (joinL s l), S) else none
  | _, _, _ => none
theorem mt_joinT : MtA X "str.join" joinTM := by
  intro pins s σ H x xs v us Q I rx rs h
  obtain ⟨φ, S, a, ds, d, S', rh, ra, rd, e, k⟩ := h
  unfold joinTM at e
  split at e
  · rename_i z ds
    obtain ⟨l, e4, e2⟩ := bindO e
    split at e2
    · cases e2
      rename_i hl
      obtain ⟨w, rfl, rw'⟩ := rvs1 rd
      obtain ⟨p, vs, rfl, sq, r⟩ := rw'.tup_
      have := asStr_all r e4
      subst this
      refine L2.mt_join pins s σ H _ _ v us Q I rx rs ⟨toS z, p, l.map toS, ra.str_, rfl, .inr sq, ?_, ?_⟩
      · rw [List.map_map, List.length_map, toS_len]
        have : (List.map ((fun x => x.length) ∘ toS) l) = l.map List.length := by
          apply List.map_congr_left
          intro y _
          exact toS_len y
        rw [this]
        exact hl
      · rw [TL.join_eq, joinL_eq]
        exact k φ H _ .refl rh rv_str
    · cases e2
  · cases e
/-! ### len(set(..)) -/
theorem cr_lenS (hc : X.calm = true) : CallR X (.builtin "len") (fun vs H Q => ∃ (a : Addr) (xs : List (List Nat)) (n : Nat), vs = [.ref a] ∧ H a = some (SetH X.w a (xs.map toS) n) ∧ n < 4000 ∧ Q (.int ((dedT xs).length : Nat)) H) := by
  intro pins s σ H vs us Q I r h
  obtain ⟨a, xs, n, rfl, ha, few, q⟩ := h
  have R := setH_get I ha
  rw [Vals.ref1 r]
  obtain ⟨o, es, ep, t, ho, hex, hd, g, nd, hm, hb, hf, hn, hr, hl⟩ := R
  have pd : (es.toList.map sKey).Perm ((dedT xs).map toS) := by
    refine (List.perm_ext_iff_of_nodup nd ?_).2 fun k => ?_
    · exact List.Pairwise.map toS (fun x y ne e => ne (toS_inj e)) (dedT_nodup xs)
    · rw [← hm k, decide_eq_true_eq, List.mem_map, List.mem_map]
      exact ⟨fun ⟨x, h1, h2⟩ => ⟨x, (dedT_mem x xs).2 h1, h2⟩, fun ⟨x, h1, h2⟩ => ⟨x, (dedT_mem x xs).1 h1, h2⟩⟩
  have cnt : es.size = (dedT xs).length := by
    have := pd.length_eq
    rw [List.length_map, List.length_map, Array.length_toList] at this
    exact this
  refine call_len_set ho hex hd hf (by rw [hn]; omega) ⟨.int ((dedT xs).length : Nat), H, (I.tok _), ⟨_, by rw [cnt]⟩, q⟩
def eLenSet (a : EF) : EF := fun ρ S => (a ρ S).bind fun x S1 => match strsOf x S1 with
  | some l => if l.length < 4000 then .ok (.int ((dedT l).length : Nat)) S1 else .stuck
  | none => .stuck
theorem ae_lenSet {e : Expr} {Fa : EF} {p pos p2 pos2 : Pos} (hc : X.calm = true) (hm : X.mg "len" = none) (hm2 : X.mg "set" = none) (ha : AE X W e Fa) (hb : bootBuiltins "len" = some (.builtin "len")) (hb2 : bootBuiltins "set" = some (.type "set"))
    (hg : Gl X "len" := by rfl) (hg2 : Gl X "set" := by rfl) (hs : starEach [e] X.env = (false, eval e X.env) :: starEach [] X.env := by rfl) :
    AE X W (.Call (.Name "len" p) [.Call (.Name "set" p2) [e] [] pos2] [] pos) (eLenSet Fa) := by
  refine pe_mono (pe_callB (cr_lenS hc) hg hm hb (pa_cons (pe_callTy (cr_setS hc) hg2 hm2 hb2 (pa_cons ha pa_nil hs) (by decide) (by decide) hs (by rfl)) pa_nil (by rfl))) fun σ H Q ⟨φ, ρ, S, rh, rl, f⟩ => ?_
  refine ⟨φ, ρ, S, rh, rl, (Fin.bind f).imp ?_⟩
  rintro v H1 ⟨φ1, S1, d, e1, rh1, rv1, f1⟩
  split at f1
  · rename_i l el
    split at f1
    · rename_i few
      obtain ⟨q, rfl, sq⟩ := strsOf_ok rh1 rv1 el
      refine ⟨q, _, rfl, sq, by rw [List.length_map]; exact few, fun a n free le => ?_⟩
      refine ⟨a, l, n, rfl, upd_same, by rw [List.length_map] at le; omega, ?_⟩
      have x1 := Ext.new (K := X.kw) (φ := φ1) (o := SetH X.w a (l.map toS) n) free
      exact f1 φ1 _ _ x1 (rh1.new free) rv_int
    · exact f1.elim
  · exact f1.elim
/-! ### zip -/
def nxZ (ds es : List D) (i : Nat) : Option (Option D) := match ds[i]?, es[i]? with
  | some d, some e => some (some (.tup [d, e]))
  | _, _ => some none
def srcZ (a b : D) (S : Store) : Option Src := match a, b with
  | .tup ds, .tup es => some ⟨ds.length + 1, fun i _ => nxZ ds es i⟩
  | .ref n, .ref m => match lstAt S n, lstAt S m with
    | some xs, some _ => some ⟨xs.length + 1, fun i S => match lstAt S n, lstAt S m with
      | some xs, some ys => nxZ xs ys i
      | _, _ => none⟩
    | _, _ => none
  | _, _ => none
def iZip (a : AF) : IF := fun ρ S => (a ρ S).bind fun ds S1 => match ds with
  | [d, e] => ofSrc (srcZ d e S1) S1
  | _ => .stuck
theorem nxZ_some {ds es : List D} {i : Nat} {d : D} (h : nxZ ds es i = some (some d)) : ∃ x y, ds[i]? = some x ∧ es[i]? = some y ∧ d = .tup [x, y] := by
  unfold nxZ at h
  split at h
  · rename_i x y e1 e2
    cases h
    exact ⟨x, y, e1, e2, rfl⟩
  · cases h
theorem nxZ_none {ds es : List D} {i : Nat} (h : nxZ ds es i = some none) : ds.length ≤ i ∨ es.length ≤ i := by
  unfold nxZ at h
  split at h
  · cases h
  · rename_i hn
    by_cases c1 : ds.length ≤ i
    · exact .inl c1
    · by_cases c2 : es.length ≤ i
      · exact .inr c2
      · exact (hn _ _ (List.getElem?_eq_getElem (by omega)) (List.getElem?_eq_getElem (by omega))).elim
theorem pair_new2 {K : KW} {φ : List Addr} {H : Hp} {S : Store} {T : Addr} {d e : D} {v w : V} (rh : RH K φ H S) (hT : H T = none) (r : RV K φ H d v) (r2 : RV K φ H e w) :
    Ext K φ H φ (upd H T (.tup [v, w])) ∧ RH K φ (upd H T (.tup [v, w])) S ∧ RV K φ (upd H T (.tup [v, w])) (.tup [d, e]) (.ref T) := by
  have x := Ext.new (K := K) (φ := φ) (o := HO.tup [v, w]) hT
  exact ⟨x, rh.new hT, rv_tup (.inl (.inl upd_same)) (.cons (r.ext x) (.cons (r2.ext x) .nil))⟩
theorem src_zT {K : KW} {φ : List Addr} {H : Hp} {a b : Addr} {vs ws : List V} {ds es : List D} (sq : SqT K H a vs) (r : RVs K φ H ds vs) (sq' : SqT K H b ws) (r' : RVs K φ H es ws) : SrcOk K φ H (RZ.ItzT K a b) (fun i _ => nxZ ds es i) := by
  intro i φ1 H1 S1 x rh
  have q1 := x.sq a vs sq
  have q2 := x.sq b ws sq'
  refine ⟨fun d e => ?_, fun e => ⟨vs, ws, q1, q2, by rw [← r.length, ← r'.length]; exact nxZ_none e⟩⟩
  obtain ⟨d1, d2, e1, e2, rfl⟩ := nxZ_some e
  obtain ⟨v, g1, rv⟩ := (r.ext x).get e1
  obtain ⟨w, g2, rw'⟩ := (r'.ext x).get e2
  refine ⟨⟨vs, ws, v, w, q1, q2, g1, g2⟩, fun y H' ⟨T, v', w', z1, hT, z2, hx, hy⟩ => ?_⟩
  have := hx vs q1
  rw [g1] at this
  cases this
  have := hy ws q2
  rw [g2] at this
  cases this
  subst z1 z2
  exact pair_new2 rh hT rv rw'
theorem src_zL {K : KW} {φ : List Addr} {H : Hp} {a b : Addr} {n m : Nat} (g : φ[n]? = some a) (g' : φ[m]? = some b) : SrcOk K φ H (Itz K a b) (fun i S => match lstAt S n, lstAt S m with
      | some xs, some ys => nxZ xs ys i
      | _, _ => none) := by
  intro i φ1 H1 S1 x rh
  refine ⟨fun d e => ?_, fun e => ?_⟩
  · dsimp only at e
    split at e
    · rename_i xs ys el el'
      obtain ⟨vs, q1, r⟩ := lstAt_sq rh (pre_get x.pre g) el
      obtain ⟨ws, q2, r'⟩ := lstAt_sq rh (pre_get x.pre g') el'
      obtain ⟨d1, d2, e1, e2, rfl⟩ := nxZ_some e
      obtain ⟨v, g1, rv⟩ := r.get e1
      obtain ⟨w, g2, rw'⟩ := r'.get e2
      refine ⟨⟨vs, ws, v, w, q1, q2, g1, g2⟩, fun y H' ⟨T, v', w', z1, hT, z2, hx, hy⟩ => ?_⟩
      have := hx vs q1
      rw [g1] at this
      cases this
      have := hy ws q2
      rw [g2] at this
      cases this
      subst z1 z2
      exact pair_new2 rh hT rv rw'
    · cases e
  · dsimp only at e
    split at e
    · rename_i xs ys el el'
      obtain ⟨vs, q1, r⟩ := lstAt_sq rh (pre_get x.pre g) el
      obtain ⟨ws, q2, r'⟩ := lstAt_sq rh (pre_get x.pre g') el'
      exact ⟨vs, ws, q1, q2, by rw [← r.length, ← r'.length]; exact nxZ_none e⟩
    · cases e
theorem ai_zip {e e2 : Expr} {Fr : AF} {p pos tpos : Pos} {elts : List Expr} {kk : Nat} (ha : AA X W [e, e2] Fr) (hm : X.mg "zip" = none) (hg : Gl X "zip" := by rfl)
    (hs : starEach [e, e2] X.env = (false, eval e X.env) :: starEach [e2] X.env := by rfl) (hpl : (backTo pos (starEach [e2] X.env)).any (·.1) = false := by rfl) :
    AI X W (.Tuple elts kk tpos) (.Call (.Name "zip" p) [e, e2] [] pos) (iZip Fr) := by
  refine pi_mono (RZ.pi_zipA hg hm ha hs hpl) fun σ H R ⟨φ, ρ, S, rh, rl, f⟩ => ⟨φ, ρ, S, rh, rl, ?_⟩
  unfold iZip at f
  cases z : Fr ρ S with
  | stuck => rw [z] at f; exact f.elim
  | exc x S1 => rw [z] at f; exact f
  | ok ds S1 =>
    rw [z] at f
    intro φ1 H1 vs x1 rh1 rv1
    simp only [Res.bind_ok] at f
    have key : ∀ d e, ds = [d, e] → (match ofSrc (srcZ d e S1) S1 with
          | .ok src S' => ∀ φ' H' J, Ext X.kw φ H φ' H' → RH X.kw φ' H' S' → SrcOk X.kw φ' H' J src.nxt → R J H'
          | .exc x S' => ∀ φ' H' cv dx, Ext X.kw φ H φ' H' → RH X.kw φ' H' S' → RX X.kw φ' H' x cv dx → W cv dx σ H'
          | .stuck => False) → ∃ a b xs ys, vs = [.ref a, .ref b] ∧ ((SqL X.K H1 a xs ∧ SqL X.K H1 b ys ∧ R (Itz X.K a b) H1) ∨ (SqT X.K H1 a xs ∧ SqT X.K H1 b ys ∧ R (RZ.ItzT X.K a b) H1)) := by
      clear f
      intro d e ed f
      subst ed
      obtain ⟨v, w, rfl, rv, rw'⟩ := rvs2 rv1
      cases es : srcZ d e S1 with
      | none => rw [es] at f; exact f.elim
      | some src =>
        rw [es] at f
        unfold srcZ at es
        split at es
        · cases es
          obtain ⟨p, vs, rfl, sq, r⟩ := rv.tup_
          obtain ⟨q, ws, rfl, sq', r'⟩ := rw'.tup_
          exact ⟨p, q, vs, ws, rfl, .inr ⟨sq, sq', f φ1 H1 _ x1 rh1 (src_zT sq r sq' r')⟩⟩
        · split at es
          · rename_i xs ys el el'
            cases es
            obtain ⟨p, rfl, g⟩ := rv.ref_
            obtain ⟨q, rfl, g'⟩ := rw'.ref_
            obtain ⟨vs, sq, r⟩ := lstAt_sq rh1 g el
            obtain ⟨ws, sq', r'⟩ := lstAt_sq rh1 g' el'
            exact ⟨p, q, vs, ws, rfl, .inl ⟨sq, sq', f φ1 H1 _ x1 rh1 (src_zL g g')⟩⟩
          · cases es
        · cases es
    cases ds with
    | nil => exact f.elim
    | cons d r =>
      cases r with
      | nil => exact f.elim
      | cons e r =>
        cases r with
        | nil => exact key d e rfl f
        | cons _ _ => exact f.elim
end
end Al

set_option Elab.async false
set_option linter.all false
set_option maxRecDepth 100000
set_option maxHeartbeats 1000000
/-! Al: dicts compared; x[::-1]. -/
namespace Al
open PySem PySem.Spec PyProof.Rows L2
/-- the values of one dict against another one's -/
def dHits (S : Store) (ls : List (List Nat × D)) : List (List Nat × D) → Option Bool
  | [] => some true
  | p :: r => match dGet ls p.1 with
    | none => some false
    | some y => match toP 60 S p.2, toP 60 S y, dHits S ls r with
      | some a, some b, some k => some (PyData.eqv a b && k)
      | _, _, _ => none
def dEqB (S : Store) (ks ls : List (List Nat × D)) : Option Bool := if ks.length = ls.length then dHits S ls ks else some false
def deqO : F2
  | .ref n, .ref m, S => match dctAt S n, dctAt S m with
    | some ks, some ls => (dEqB S ks ls).map fun k => (.bl k, S)
    | _, _ => none
  | _, _, _ => none
def dneO : F2
  | .ref n, .ref m, S => match dctAt S n, dctAt S m with
    | some ks, some ls => (dEqB S ks ls).map fun k => (.bl (!k), S)
    | _, _ => none
  | _, _, _ => none
section
variable {X : Cx} {pins : List (Addr × Obj)} {σ : L2.St} {H : Hp} {s : Shared} {φ : List Addr} {S : Store}
theorem hits_of (I : Inv X pins σ H s) (rh : RH X.kw φ H S) (hu : X.A.units + 66 < cLine) {ls : List (List Nat × D)} {lv : List (Key × V)} {vb : List (Key × Value)} (rl : RKs X.kw φ H ls lv) (rb : KV lv vb) :
    ∀ {ks : List (List Nat × D)} {kv : List (Key × V)} {va : List (Key × Value)} {k : Bool}, RKs X.kw φ H ks kv → KV kv va → dHits S ls ks = some k → PySem.W.KeqHits X.A.in1 s vb va k
  | [], kv, va, k, rk, ra, e => by
    have : kv = [] := rk
    subst this
    cases ra
    cases e
    exact .nil
  | p :: ks, kv, va, k, rk, ra, e => by
    obtain ⟨x, r, rfl, ⟨h0, h1⟩, h2⟩ := rk
    cases ra with
    | @cons _ q _ qs h t =>
      obtain ⟨g1, g2⟩ := h
      obtain ⟨qk, qv⟩ := q
      have g1' : x.1 = qk := g1
      have kk : qk = .inr (toS p.1) := by rw [← g1', h0]
      subst kk
      obtain ⟨z1, z2⟩ := rl.get p.1
      have rr := rb.val (.inr (toS p.1) : Key)
      unfold dHits at e
      split at e
      · rename_i en
        cases e
        have := z2 en
        rw [this] at rr
        refine .miss ?_
        have := rr.isSome_eq
        cases hh : valueAt vb (.inr (toS p.1) : Key) with
        | none => rfl
        | some y => rw [hh] at this; cases this
      · rename_i y ey
        obtain ⟨v, e1, rv⟩ := z1 y ey
        rw [e1] at rr
        obtain ⟨u, hu', ru⟩ := rr.some_of
        split at e
        · rename_i a b k' ea eb ek
          cases e
          obtain ⟨a1, a2⟩ := toP_shaped rh h1 ea
          obtain ⟨b1, b2⟩ := toP_shaped rh rv eb
          obtain ⟨as, r1⟩ := Dp.reads I a _ _ a1 g2
          obtain ⟨bs, r2⟩ := Dp.reads I b _ _ b1 ru
          have hu1 : X.A.in1.units + 64 < cLine := by
            show X.A.units + 1 + 64 < cLine
            omega
          exact .hit hu' (PySem.W.keq_at r1 r2 a2 b2 hu1) (hits_of I rh hu rl rb h2 t ek)
        · cases e
theorem op_deqA (hu : X.A.units + 66 < cLine) : OpA X (compareOp .Eq) deqO := by
  intro pins s σ H x y v u Q I rx ry h
  obtain ⟨φ, S, a, b, d, S', rh, ra, rb, e, k⟩ := h
  unfold deqO at e
  split at e
  · split at e
    · rename_i n m _ ks ls e1 e2
      obtain ⟨kb, e3, e4⟩ := mapOpt e
      cases e4
      obtain ⟨p, vs, rfl, g1, ea, r1⟩ := dctAt_ok rh e1 ra
      obtain ⟨q, ws, rfl, g2, eb, r2⟩ := dctAt_ok rh e2 rb
      obtain rfl : v = Value.ref p := rx
      obtain rfl : u = Value.ref q := ry
      obtain ⟨_, ya, va, rka, da⟩ := (show ObjOk X.prog X.w H s.heap p (.dK vs) from I.hok p _ ea)
      obtain ⟨_, yb, vb, rkb, db⟩ := (show ObjOk X.prog X.w H s.heap q (.dK ws) from I.hok q _ eb)
      have l1 : va.length = ks.length := by rw [← rka.length, r1.length]
      have l2 : vb.length = ls.length := by rw [← rkb.length, r2.length]
      unfold dEqB at e3
      split at e3
      · rename_i hl
        refine PySem.W.keq_eq (knd := mixKind X.prog X.w) (r := kb) ya yb da db (by omega) (fun _ => hits_of I rh hu r2 rkb r1 rka e3) (fin_bl I (k φ H _ .refl rh rv_bl) ?_)
        rw [l1, l2, hl]
        simp
      · rename_i hl
        cases e3
        refine PySem.W.keq_eq (knd := mixKind X.prog X.w) (r := false) ya yb da db (by omega) (fun hh => ?_) (fin_bl I (k φ H _ .refl rh rv_bl) ?_)
        · exact (hl (by rw [← l1, ← l2]; exact hh)).elim
        · simp
    · cases e
  · cases e
theorem op_dneA (hu : X.A.units + 66 < cLine) : OpA X (compareOp .NotEq) dneO := by
  intro pins s σ H x y v u Q I rx ry h
  obtain ⟨φ, S, a, b, d, S', rh, ra, rb, e, k⟩ := h
  unfold dneO at e
  split at e
  · split at e
    · rename_i n m _ ks ls e1 e2
      obtain ⟨kb, e3, e4⟩ := mapOpt e
      cases e4
      obtain ⟨p, vs, rfl, g1, ea, r1⟩ := dctAt_ok rh e1 ra
      obtain ⟨q, ws, rfl, g2, eb, r2⟩ := dctAt_ok rh e2 rb
      obtain rfl : v = Value.ref p := rx
      obtain rfl : u = Value.ref q := ry
      obtain ⟨_, ya, va, rka, da⟩ := (show ObjOk X.prog X.w H s.heap p (.dK vs) from I.hok p _ ea)
      obtain ⟨_, yb, vb, rkb, db⟩ := (show ObjOk X.prog X.w H s.heap q (.dK ws) from I.hok q _ eb)
      have l1 : va.length = ks.length := by rw [← rka.length, r1.length]
      have l2 : vb.length = ls.length := by rw [← rkb.length, r2.length]
      unfold dEqB at e3
      split at e3
      · rename_i hl
        refine PySem.W.keq_ne (knd := mixKind X.prog X.w) (r := kb) ya yb da db (by omega) (fun _ => hits_of I rh hu r2 rkb r1 rka e3) (fin_bl I (k φ H _ .refl rh rv_bl) ?_)
        rw [l1, l2, hl]
        simp
      · rename_i hl
        cases e3
        refine PySem.W.keq_ne (knd := mixKind X.prog X.w) (r := false) ya yb da db (by omega) (fun hh => ?_) (fin_bl I (k φ H _ .refl rh rv_bl) ?_)
        · exact (hl (by rw [← l1, ← l2]; exact hh)).elim
        · simp
    · cases e
  · cases e
end
end Al

set_option Elab.async false
set_option linter.all false
set_option maxRecDepth 100000
set_option maxHeartbeats 1000000
/-! Al: x[::-1] of a list. -/
namespace Al
open PySem PySem.Spec PyProof.Rows L2
theorem rev_pick (its : List Value) : slicePick its.toArray none none (some (-1)) = its.reverse.toArray := by
  unfold slicePick sliceBounds
  simp only [Option.getD_some, List.size_toArray]
  have h1 : ¬ ((-1 : Int) > 0) := by omega
  simp only [h1, if_false]
  unfold sliceRange
  simp only [h1, if_false]
  congr 1
  apply List.ext_getElem?
  intro i
  have hc : ((if ((its.length : Int) - 1) > -1 then ((its.length : Int) - 1 - -1 - -1 - 1) / (- -1) else 0) : Int).toNat = its.length := by
    by_cases h : ((its.length : Int) - 1) > -1
    · rw [if_pos h]
      have : ((its.length : Int) - 1 - -1 - -1 - 1) = its.length := by omega
      rw [this]
      have : (- -1 : Int) = 1 := by decide
      rw [this, Int.ediv_one]
      omega
    · rw [if_neg h]
      omega
  rw [hc]
  have e : (List.map (fun (k : Nat) => ((its.length : Int) - 1 + -1 * (k : Int)).toNat) (List.range its.length)).filterMap (fun x => its.toArray[x]?) = its.reverse := by
    rw [List.filterMap_map]
    have : ∀ (n : Nat) (l : List Value), l.length = n → (List.range n).filterMap ((fun x => l.toArray[x]?) ∘ fun (k : Nat) => ((n : Int) - 1 + -1 * (k : Int)).toNat) = l.reverse := by
      intro n l hl
      have a0 : ∀ (ks : List Nat), (∀ k ∈ ks, k < n) → ks.filterMap ((fun x => l.toArray[x]?) ∘ fun (k : Nat) => ((n : Int) - 1 + -1 * (k : Int)).toNat) = ks.filterMap (fun k => l.reverse[k]?) := by
        intro ks
        induction ks with
        | nil => intro _; rfl
        | cons k ks ih =>
          intro hh
          have hk : k < n := hh k List.mem_cons_self
          rw [List.filterMap_cons, List.filterMap_cons, ih fun j hj => hh j (List.mem_cons_of_mem _ hj)]
          have : ((n : Int) - 1 + -1 * (k : Int)).toNat = n - 1 - k := by omega
          simp only [Function.comp_apply, this]
          rw [List.getElem?_reverse (by omega), hl]
          simp
      have a := a0 (List.range n) fun k hk => List.mem_range.mp hk
      rw [a]
      have b : ∀ (m : List Value), (List.range m.length).filterMap (fun k => m[k]?) = m := by
        intro m
        induction m with
        | nil => rfl
        | cons x m ih =>
          rw [List.length_cons, List.range_succ_eq_map, List.filterMap_cons]
          simp only [List.getElem?_cons_zero, List.filterMap_map]
          congr 1
      have := b l.reverse
      rw [List.length_reverse, hl] at this
      exact this
    exact this its.length its rfl
  rw [e]
def eRev (a : EF) (st : EF) : EF := fun ρ S => (a ρ S).bind fun x S1 => (st ρ S1).bind fun k S2 => match x, k with
  | .ref n, .int i => if i = -1 then (match S2[n]? with
    | some (.lst xs) => .ok (.ref S2.length) (S2 ++ [.lst xs.reverse])
    | _ => .stuck) else .stuck
  | _, _ => .stuck
section
variable {X : Cx} {W : WX} {e st : Expr} {Fe Fs : EF} {p2 pos : Pos}
def tRev (K : PySem.W.Frag) (te ts : TE) : TE := fun σ H Q => te σ H fun x H1 => ts σ H1 fun k H2 => ∃ a xs, x = .ref a ∧ k = .int (-1) ∧ SqL K H2 a xs ∧ ∀ p, H2 p = none → Q (.ref p) (upd H2 p (.lst xs.reverse))
theorem Vals.rev' {xs : List V} {us : List Value} (r : Vals xs us) : Vals xs.reverse us.reverse := by
  induction r with
  | nil => exact .nil
  | cons h t ih =>
    rw [List.reverse_cons, List.reverse_cons]
    exact ih.append (.cons h .nil)
theorem pe_rev {te ts : TE} (he : PE X e te) (hs : PE X st ts) : PE X (.Subscript e (.Slice none none (some st) p2) pos) (tRev X.K te ts) := by
  refine ⟨fun pins s σ H Q I h => ?_⟩
  refine Subscript_ (thn (he.run pins s σ H _ I h) fun v s1 ⟨x, H1, I1, r1, q1⟩ => ?_)
  refine wpAny_Slice ?_
  rw [evalPart_none]
  refine wpAny_pure (wpAny_pure ?_)
  rw [evalPart_some]
  refine thn (hs.run pins s1 σ H1 _ I1 q1) fun vst s3 ⟨k, H3, I3, rk, q3⟩ => ?_
  obtain ⟨a, xs, rfl, rfl, hx, q⟩ := q3
  obtain ⟨t, rfl⟩ := rk
  have I4 : Inv X pins σ H3 { s3 with heap := s3.heap.push { cls := .type "slice", data := .fields #[.none, .none, .int (-1) t] } } := I3.kept (t' := s3.toks) fun b ob q => Heap.get?_push_of_some _ q
  cases r1
  obtain ⟨its, r, ht, hz⟩ := I4.list hx
  have hlen := r.length
  refine tail_any (T := "list") (ops := [.ref a, .ref s3.heap.objs.size]) ht.isList.typeIs slot_list_getitem.lookup ?_ (by with_unfolding_all rfl)
  refine wpAny_getItem_list_slice ht.isList (Heap.IsSliceOf.new ..) .none .none (.int (-1) t) (by decide) ?_ (by rw [List.size_toArray] <;> omega)
  rw [rev_pick]
  refine ⟨.ref _, _, I4.laid (t' := s3.toks) (o := .lst xs.reverse) (fun b ob q => Heap.get?_push_of_some _ q) (Nat.le_refl _) ?_, rfl, q _ (I4.hok.fresh (Nat.le_refl _))⟩
  exact ⟨by rw [List.length_reverse]; exact hz, _, 0, Vals.rev' r, Heap.get?_push_size _ rfl⟩
theorem RVs.rev {K : KW} {φ : List Addr} {H : Hp} : ∀ {ds : List D} {vs : List V}, RVs K φ H ds vs → RVs K φ H ds.reverse vs.reverse
  | [], vs, h => by cases h.nil_iff; exact .nil
  | d :: ds, vs, h => by
    obtain ⟨v, r, rfl, h1, h2⟩ := h.cons_iff
    rw [List.reverse_cons, List.reverse_cons]
    exact (RVs.rev h2).append (.cons h1 .nil)
theorem ae_rev (he : AE X W e Fe) (hs : AE X W st Fs) : AE X W (.Subscript e (.Slice none none (some st) p2) pos) (eRev Fe Fs) := by
  refine pe_mono (pe_rev he hs) fun σ H Q ⟨φ, ρ, S, rh, rl, f⟩ => ⟨φ, ρ, S, rh, rl, (Fin.bind f).imp ?_⟩
  rintro v H1 ⟨φ1, S1, d, e1, rh1, rv1, f1⟩
  refine ⟨φ1, ρ, S1, rh1, rl.ext e1, (Fin.bind f1).imp ?_⟩
  rintro w H2 ⟨φ2, S2, k, e2, rh2, rv2, f2⟩
  split at f2
  · split at f2
    · rename_i n i hi
      split at f2
      · rename_i xs en
        subst hi
        obtain ⟨q, rfl, g, vs, h1, r⟩ := rh2.obj en (rv1.ext e2)
        exact ⟨q, vs, rfl, rv2.int_, .inl (.inl h1), new_list rh2 r.rev f2⟩
      · exact f2.elim
    · exact f2.elim
  · exact f2.elim
end
end Al

set_option Elab.async false
set_option linter.all false
set_option maxRecDepth 100000
set_option maxHeartbeats 1000000
/-! Al: classes and their methods as parts of a text. -/
namespace Al
open PySem PySem.Spec PyProof.Rows L2
/-- the j-th statement of a class -/
def clsS (st : Stmt) (j : Nat) : Stmt := match st with
  | .ClassDef _ _ _ body _ _ _ _ _ _ _ => body.getD j (.Pass ⟨0, 0, 0, 0⟩)
  | _ => .Pass ⟨0, 0, 0, 0⟩
theorem hu12_of {A : Around} {k : Nat} (hr : Room k A) : A.units + 12 < cLine := Nat.lt_of_le_of_lt (Nat.add_le_add_left (by decide : 12 ≤ 64) _) hr.units
/-- the __init__ of a class -/
def Di (K : PySem.W.Frag) (mg : Str → Option Value) (x : Str) (C : Addr) (qual : Str) (st : Stmt) (ps : List Str) : Prop := ∃ f fd, Fun K "__init__" qual st f fd ∧ Mk K C f ∧ mg x = some (.ref C) ∧ ∀ us : List Value, us.length = ps.length → bindArgs fd ⟨us, []⟩ = pure (ps.zip us)
section
variable {P : Program} {w : World} {K : PySem.W.Frag} {mg : Str → Option Value} {base : Heap} {k : Nat} {C : Addr} {x qual : Str} {st : Stmt} {ps N : List Str}
theorem OkC.mono {j k : Nat} {F : CF} (h : OkC P w K mg base j x C ps F) (l : j ≤ k) : OkC P w K mg base k x C ps F := by
  obtain ⟨f, fd, a, b⟩ := h
  exact ⟨f, fd, a.mono l, b⟩
theorem ok_init {B : SF} (D : Di K mg x C qual st ps) (S : FnScope N ps (defScope st))
    (hb : ∀ (f : Addr) (cdv : Value) (A : Around) (outer : List PySem.Env) (s : Shared) (H : Hp) (E : XK), RoomG k (cxA P w K mg base N qual st f cdv A outer s H E).A → Psd (cxA P w K mg base N qual st f cdv A outer s H E) (wA E) →
      PassesOwn (model P w) (cxA P w K mg base N qual st f cdv A outer s H E).A (cxA P w K mg base N qual st f cdv A outer s H E).env (cxA P w K mg base N qual st f cdv A outer s H E).xe → Takes (cxA P w K mg base N qual st f cdv A outer s H E) (wA E) → ASs (cxA P w K mg base N qual st f cdv A outer s H E) (wA E) (defBody st) B) :
    OkC P w K mg base (k + 1) x C ps (bodyF N.length B) := by
  obtain ⟨f, fd, F, g, c, b⟩ := D
  exact ⟨f, fd, fn_okG F S fun cdv A outer s H E hr => hb f cdv A outer s H E hr (psd_of (takes_of rfl rfl rfl rfl)) (passes_of rfl) (takes_of rfl rfl rfl rfl), g, .all b, c⟩
end
/-- a class over Exception with one field, in the text -/
structure Dx (K : PySem.W.Frag) (mg : Str → Option Value) (x : Str) (C : Addr) (f : Str) (qual : Str) (st : Stmt) (ps : List Str) : Prop where
  ox : OxE K C
  gl : mg x = some (.ref C)
  ini : ∃ fI fd, Fun K "__init__" qual st fI fd ∧ PySem.W.findIn K (.ref C) "__init__" = some (some (.ref fI)) ∧ PySem.W.typeIn K (.ref fI) = some (.type "function") ∧ ∀ us : List Value, us.length = ps.length → bindArgs fd ⟨us, []⟩ = pure (ps.zip us)
  fld : XfC K C
  no : PySem.W.findIn K (.ref C) f = some none
  me : PySem.W.exmOne K (.ref C) (.ref C) = some true
  nE : mg "Exception" = none
  vV : PySem.W.findCls K (.type "Exception") (.type "type") "__init__" = some (.val (.builtin "Exception.__init__"))
section
variable {P : Program} {w : World} {K : PySem.W.Frag} {mg : Str → Option Value} {base : Heap} {C : Addr} {x f qual : Str} {st : Stmt} {ps N : List Str}
theorem Dx.xcf (D : Dx K mg x C f qual st ps)
    (hp : ∀ fI fd, Fun K "__init__" qual st fI fd → FnOk P w K mg base CX0 1 fI fd ps (spX C f)) : XcF P w K mg base x C f := by
  obtain ⟨fI, fd, F, iC, tI, b⟩ := D.ini
  exact ⟨D.ox, D.gl, ⟨fI, fd, iC, tI, ps, hp fI fd F, .all b⟩, D.fld, D.no, D.me⟩
end
theorem hu66_of {A : Around} {k : Nat} (hr : Room k A) : A.units + 66 < cLine := by have := hr.un; omega
/-! ### facts of the top -/
section
variable {K : PySem.W.Frag} {h : Heap} {mg : Str → Option Value} {x m qual : Str} {st : Stmt} {ps : List Str}
theorem cls_mk (X : K.In h) (C : Addr) (a : PySem.W.plainGet K C Str.empty = true) (b : PySem.W.hasDictIn K C = true) (c : PySem.W.plainOver K C = true) (d : PySem.W.findIn K (.ref C) "__setattr__" = some (some (.builtin "object.__setattr__"))) : Cls K C := ⟨a, b, c, d⟩
theorem na_mk (X : K.In h) (C : Addr) (f : Str) (a : PySem.W.findIn K (.ref C) f = some none) : NoAttr K C f := a
theorem dm_mk (X : K.In h) (C : Addr) (cl : Cls K C) {f : Addr} {oc : Value} {od an : Option Addr} {osl : Array (Option Value)} {kV doc pm cdv ct : Value}
    (a : PySem.W.findIn K (.ref C) m = some (some (.ref f))) (l : K.lookup f = some ⟨oc, od, .func (PySem.W.fnOf m qual (defArgs st) (defBody st) (defScope st) .none kV doc pm an cdv ct), osl⟩) (c : PySem.W.codeIn K cdv qual = true) (k : PySem.W.keepIn K (.ref f) = true) (fn : PySem.W.isFn K (.ref f) = true)
    (b : ∀ (kV doc pm : Value) (an : Option Addr) (cdv ct : Value) (us : List Value), us.length = ps.length → bindArgs (PySem.W.fnOf m qual (defArgs st) (defBody st) (defScope st) .none kV doc pm an cdv ct) ⟨us, []⟩ = pure (ps.zip us)) : Dm K C m qual st ps :=
  have F := fun_mk (st := st) l c k
  ⟨_, _, F, ⟨a, fn, k⟩, cl, b kV doc pm an cdv ct⟩
theorem di_mk (X : K.In h) (G : h.Ns mainGlobals mg) (C : Addr) {f : Addr} {oc : Value} {od an : Option Addr} {osl : Array (Option Value)} {kV doc pm cdv ct : Value}
    (g : PySem.W.nsIn K mainGlobals x = some (some (.ref C))) (mk : PySem.W.makesIn K C = true) (kC : PySem.W.keepIn K (.ref C) = true)
    (a : PySem.W.findIn K (.ref C) "__init__" = some (some (.ref f))) (l : K.lookup f = some ⟨oc, od, .func (PySem.W.fnOf "__init__" qual (defArgs st) (defBody st) (defScope st) .none kV doc pm an cdv ct), osl⟩) (c : PySem.W.codeIn K cdv qual = true) (k : PySem.W.keepIn K (.ref f) = true) (fn : PySem.W.isFn K (.ref f) = true)
    (b : ∀ (kV doc pm : Value) (an : Option Addr) (cdv ct : Value) (us : List Value), us.length = ps.length → bindArgs (PySem.W.fnOf "__init__" qual (defArgs st) (defBody st) (defScope st) .none kV doc pm an cdv ct) ⟨us, []⟩ = pure (ps.zip us)) : Di K mg x C qual st ps :=
  have F := fun_mk (st := st) l c k
  ⟨_, _, F, ⟨mk, a, fn, kC⟩, PySem.W.mg_of X G g, b kV doc pm an cdv ct⟩
theorem ox_mk (X : K.In h) (C : Addr) {nm q : Str} {N : Addr} {bs : List Value} {sn : List Str} {sub ab col dd k0 k1 k2 k3 k5} (cls : K.lookup C = some (excClassObj nm q C N bs PySem.ESX.exTail true sn sub ab col dd k0 k1 k2 k3 k5 "Exception.__new__"))
    (sa : PySem.W.findIn K (.ref C) "__setattr__" = some (some (.builtin "object.__setattr__"))) (exC : PySem.W.subIn K (.ref C) (.type "BaseException") = some true) (tyC : PySem.W.typeIn K (.ref C) = some (.type "type")) (kC : PySem.W.keepIn K (.ref C) = true) : OxE K C :=
  ⟨⟨_, _, _, _, _, _, _, _, _, _, _, _, _, _, cls⟩, sa, exC, tyC, kC⟩
theorem xf_mk (X : K.In h) (C : Addr) (ga : PySem.W.findIn K (.ref C) "__getattribute__" = some (some (.builtin "BaseException.__getattribute__"))) (gg : PySem.W.findIn K (.ref C) "__getattr__" = some none) (exC : PySem.W.subIn K (.ref C) (.type "BaseException") = some true) (hdC : PySem.W.hasDictIn K C = true) : XfC K C := ⟨ga, gg, exC, hdC⟩
theorem dx_mk (X : K.In h) (G : h.Ns mainGlobals mg) (C : Addr) (fn : Str) (ox : OxE K C) (xf : XfC K C) (nE : mg "Exception" = none) {f : Addr} {oc : Value} {od an : Option Addr} {osl : Array (Option Value)} {kV doc pm cdv ct : Value}
    (g : PySem.W.nsIn K mainGlobals x = some (some (.ref C))) (no : PySem.W.findIn K (.ref C) fn = some none) (me : PySem.W.exmOne K (.ref C) (.ref C) = some true)
    (vV : PySem.W.findCls K (.type "Exception") (.type "type") "__init__" = some (.val (.builtin "Exception.__init__")))
    (a : PySem.W.findIn K (.ref C) "__init__" = some (some (.ref f))) (l : K.lookup f = some ⟨oc, od, .func (PySem.W.fnOf "__init__" qual (defArgs st) (defBody st) (defScope st) .none kV doc pm an cdv ct), osl⟩) (c : PySem.W.codeIn K cdv qual = true) (k : PySem.W.keepIn K (.ref f) = true) (ty : PySem.W.typeIn K (.ref f) = some (.type "function"))
    (b : ∀ (kV doc pm : Value) (an : Option Addr) (cdv ct : Value) (us : List Value), us.length = ps.length → bindArgs (PySem.W.fnOf "__init__" qual (defArgs st) (defBody st) (defScope st) .none kV doc pm an cdv ct) ⟨us, []⟩ = pure (ps.zip us)) : Dx K mg x C fn qual st ps :=
  have F := fun_mk (st := st) l c k
  ⟨ox, PySem.W.mg_of X G g, ⟨_, _, F, a, ty, b kV doc pm an cdv ct⟩, xf, no, me, nE, vV⟩
end
end Al

set_option Elab.async false
set_option linter.all false
set_option maxRecDepth 100000
set_option maxHeartbeats 4000000
/-! what the defs compute; printed by gen.py -/
namespace LK34
open PySem PySem.Spec PyProof.Rows L2 Al
abbrev A_Runner : Addr := 274
abbrev A_Stop : Addr := 228
def k_BREAKING : D := (.str [120])
def k_CAPITALS : D := (.str [65, 66, 67, 68, 69, 70, 71, 72, 73, 74, 75, 76, 77, 78, 79, 80, 81, 82, 83, 84, 85, 86, 87, 88, 89, 90])
def k_CHECK : D := (.str [99, 104, 101, 99, 107])
def k_DONE : D := (.str [100, 111, 110, 101])
def k_DROP : D := (.str [100, 114, 111, 112])
def k_EMPTY : D := (.str [101, 109, 112, 116, 121])
def k_FULL : D := (.str [102, 117, 108, 108])
def k_GIVE : D := (.str [103, 105, 118, 101])
def k_MOST_ASKED : D := (.int 6)
def k_MOST_IN_NAME : D := (.int 8)
def k_MOST_LEVELS : D := (.int 4)
def k_MOST_LONG : D := (.int 400)
def k_MOST_NAMES : D := (.int 12)
def k_MOST_PIECES : D := (.int 8)
def k_MOST_PLAIN : D := (.int 20)
def k_MOST_ROWS : D := (.int 40)
def k_ONE_SIGN : D := (.str [97])
def k_PLAIN_SIGNS : D := (.str [97, 98, 99, 100, 101, 102, 103, 104, 105, 106, 107, 108, 109, 110, 111, 112, 113, 114, 115, 116, 117, 118, 119, 120, 121, 122, 48, 49, 50, 51, 52, 53, 54, 55, 56, 57, 32, 95, 46, 47, 58, 61, 44, 64, 45])
def k_SET : D := (.str [115, 101, 116])
def k_SIGNS : D := (.tup ([[], [45], [58, 45], [43], [58, 43], [63], [58, 63], [61], [58, 61]].map .str))
def k_STOPPED : D := (.str [115, 116, 111, 112, 112, 101, 100])
def k_UNSET : D := (.str [117, 110, 115, 101, 116])
def B_is_name  : SF :=
  (sSeq (sIf (tOrF (tNotF (tOf (eIsi isStr (eVar 0)))) (tNotF (tOf (eChain leO leO (eC (.int 1)) (eCall lenF (aCons (eVar 0) aNil)) (eC k_MOST_IN_NAME))))) (sRet (eC (.bl false))) sNx)
    (sRet (eAnd (eOp neO (eOp ixO (eVar 0) (eC (.int 0))) (eC (.str [95]))) (eCall allF (aCons (eLc (iVal (eVar 0)) (.nm 1) tYesF (eOp inO (eVar 1) (eOp addO (eC k_CAPITALS) (eC (.str [95])))) [1]) aNil)))))
@[irreducible] def C_is_name : CF := bodyF 2 B_is_name
def B_is_plain  : SF :=
  (sSeq (sIf (tOrF (tNotF (tOf (eIsi isStr (eVar 0)))) (tNotF (tOf (eChain leO leO (eC (.int 1)) (eCall lenF (aCons (eVar 0) aNil)) (eC k_MOST_PLAIN))))) (sRet (eC (.bl false))) sNx)
    (sRet (eCall allF (aCons (eLc (iVal (eVar 0)) (.nm 1) tYesF (eOp inO (eVar 1) (eC k_PLAIN_SIGNS)) [1]) aNil))))
@[irreducible] def C_is_plain : CF := bodyF 2 B_is_plain
def B_is_part (r_is_part : CF) (r_is_text_of : CF) : SF :=
  (sSeq (sIf (tOrF (tNotF (tOf (eIsi isTup (eVar 0)))) (tOrF (tOf (eOp neO (eCall lenF (aCons (eVar 0) aNil)) (eC (.int 3)))) (tNotF (tOf (eCallD C_is_name (aCons (eOp ixO (eVar 0) (eC (.int 0))) aNil)))))) (sRet (eC (.bl false))) sNx)
    (sSeq (sIf (tOrF (tNotF (tOf (eIsi isStr (eOp ixO (eVar 0) (eC (.int 1)))))) (tOf (eOp notInO (eOp ixO (eVar 0) (eC (.int 1))) (eC k_SIGNS)))) (sRet (eC (.bl false))) sNx)
    (sSeq (sIf (tOf (eOp eqO (eOp ixO (eVar 0) (eC (.int 1))) (eC (.str [])))) (sRet (eAnd (eIsi isTup (eOp ixO (eVar 0) (eC (.int 2)))) (eOp eqO (eCall lenF (aCons (eOp ixO (eVar 0) (eC (.int 2))) aNil)) (eC (.int 0))))) sNx)
    (sRet (eAnd (eOp gtO (eVar 1) (eC (.int 0))) (eCallD r_is_text_of (aCons (eOp ixO (eVar 0) (eC (.int 2))) (aCons (eVar 1) aNil))))))))
def B_is_text_of (r_is_part : CF) (r_is_text_of : CF) : SF :=
  (sSeq (sIf (tOrF (tNotF (tOf (eIsi isTup (eVar 0)))) (tOf (eOp gtO (eCall lenF (aCons (eVar 0) aNil)) (eC k_MOST_PIECES)))) (sRet (eC (.bl false))) sNx)
    (sSeq (sFor (iEn (aCons (eVar 0) aNil)) (.tp [2, 3]) (sSeq (sIf (tAndF (tNotF (tOf (eCallD C_is_plain (aCons (eVar 3) aNil)))) (tNotF (tOf (eCallD r_is_part (aCons (eVar 3) (aCons (eOp subO (eVar 1) (eC (.int 1))) aNil)))))) (sRet (eC (.bl false))) sNx)
    (sIf (tAndF (tOf (eOp gtO (eVar 2) (eC (.int 0)))) (tAndF (tOf (eIsi isStr (eVar 3))) (tOf (eIsi isStr (eOp ixO (eVar 0) (eOp subO (eVar 2) (eC (.int 1)))))))) (sRet (eC (.bl false))) sNx)))
    (sRet (eC (.bl true)))))
mutual
def C_is_part : Nat → CF
  | 0 => fun _ _ => .stuck
  | n + 1 => bodyF 2 (B_is_part (C_is_part n) (C_is_text_of n))
def C_is_text_of : Nat → CF
  | 0 => fun _ _ => .stuck
  | n + 1 => bodyF 4 (B_is_text_of (C_is_part n) (C_is_text_of n))
end
def B_is_text  : SF :=
  (sRet (eCallD (C_is_text_of 8) (aCons (eVar 0) (aCons (eC k_MOST_LEVELS) aNil))))
@[irreducible] def C_is_text : CF := bodyF 1 B_is_text
def B_is_row  : SF :=
  (sSeq (sIf (tOrF (tNotF (tOf (eIsi isTup (eVar 0)))) (tOrF (tOf (eOp eqO (eCall lenF (aCons (eVar 0) aNil)) (eC (.int 0)))) (tNotF (tOf (eIsi isStr (eOp ixO (eVar 0) (eC (.int 0)))))))) (sRet (eC (.bl false))) sNx)
    (sSeq (sIf (tOf (eOp inO (eOp ixO (eVar 0) (eC (.int 0))) (eTup (aCons (eC k_SET) (aCons (eC k_GIVE) aNil))))) (sRet (eAnd (eOp eqO (eCall lenF (aCons (eVar 0) aNil)) (eC (.int 3))) (eAnd (eCallD C_is_name (aCons (eOp ixO (eVar 0) (eC (.int 1))) aNil)) (eCallD C_is_text (aCons (eOp ixO (eVar 0) (eC (.int 2))) aNil))))) sNx)
    (sSeq (sIf (tOf (eOp eqO (eOp ixO (eVar 0) (eC (.int 0))) (eC k_DROP))) (sRet (eAnd (eOp eqO (eCall lenF (aCons (eVar 0) aNil)) (eC (.int 2))) (eCallD C_is_name (aCons (eOp ixO (eVar 0) (eC (.int 1))) aNil)))) sNx)
    (sRet (eAnd (eOp eqO (eOp ixO (eVar 0) (eC (.int 0))) (eC k_CHECK)) (eAnd (eOp eqO (eCall lenF (aCons (eVar 0) aNil)) (eC (.int 2))) (eCallD C_is_text (aCons (eOp ixO (eVar 0) (eC (.int 1))) aNil))))))))
@[irreducible] def C_is_row : CF := bodyF 1 B_is_row
def B_text_of_row  : SF :=
  (sRet (eIf (tOf (eOp eqO (eOp ixO (eVar 0) (eC (.int 0))) (eC k_DROP))) (eTup aNil) (eOp ixO (eVar 0) (eNeg (eC (.int 1))))))
@[irreducible] def C_text_of_row : CF := bodyF 1 B_text_of_row
def B_names_in_text (r_names_in_text : CF) : SF :=
  (sSeq (sSet 1 (eLst aNil))
    (sSeq (sFor (iVal (eVar 0)) (.nm 2) (sIf (tOf (eIsi isTup (eVar 2))) (sSeq (sExpr (eM "list" appendM (eVar 1) (aCons (eOp ixO (eVar 2) (eC (.int 0))) aNil)))
    (sExpr (eM "list" extendM (eVar 1) (aCons (eCallD r_names_in_text (aCons (eOp ixO (eVar 2) (eC (.int 2))) aNil)) aNil)))) sNx))
    (sRet (eVar 1))))
mutual
def C_names_in_text : Nat → CF
  | 0 => fun _ _ => .stuck
  | n + 1 => bodyF 3 (B_names_in_text (C_names_in_text n))
end
def B_names_in  : SF :=
  (sSeq (sSet 1 (eLc (iVal (eVar 0)) (.nm 2) (tOf (eOp neO (eOp ixO (eVar 2) (eC (.int 0))) (eC k_CHECK))) (eOp ixO (eVar 2) (eC (.int 1))) [2]))
    (sSeq (sFor (iVal (eVar 0)) (.nm 2) (sExpr (eM "list" extendM (eVar 1) (aCons (eCallD (C_names_in_text 8) (aCons (eCallD C_text_of_row (aCons (eVar 2) aNil)) aNil)) aNil))))
    (sRet (eSortSet (eVar 1)))))
@[irreducible] def C_names_in : CF := bodyF 3 B_names_in
def B_need_file  : SF :=
  (sSeq (sIf (tOrF (tNotF (tOf (eIsi isTup (eVar 0)))) (tOf (eOp gtO (eCall lenF (aCons (eVar 0) aNil)) (eC k_MOST_ROWS)))) sNever sNx)
    (sSeq (sFor (iEn (aCons (eVar 0) aNil)) (.tp [1, 2]) (sIf (tNotF (tOf (eCallD C_is_row (aCons (eVar 2) aNil)))) sNever sNx))
    (sSeq (sIf (tOf (eOp gtO (eCall lenF (aCons (eCallD C_names_in (aCons (eVar 0) aNil)) aNil)) (eC k_MOST_NAMES))) sNever sNx)
    (sRet (eVar 0)))))
@[irreducible] def C_need_file : CF := bodyF 3 B_need_file
def B_kind_of  : SF :=
  (sRet (eSl (eVar 0) (pSome (eNeg (eC (.int 1)))) pNone))
@[irreducible] def C_kind_of : CF := bodyF 1 B_kind_of
def B_is_hard  : SF :=
  (sRet (eOp eqO (eSl (eVar 0) pNone (pSome (eC (.int 1)))) (eC (.str [58]))))
@[irreducible] def C_is_hard : CF := bodyF 1 B_is_hard
def B_all_names  : SF :=
  (sSeq (sSet 2 (eCall listF (aCons (eVar 1) aNil)))
    (sSeq (sFor (iVal (eVar 0)) (.nm 3) (sExpr (eM "list" extendM (eVar 2) (aCons (eCallD C_names_in (aCons (eVar 3) aNil)) aNil))))
    (sSeq (sIf (tOf (eOp gtO (eLenSet (eVar 2)) (eC k_MOST_ASKED))) sNever sNx)
    (sRet (eCall tupleF (aCons (eSortSet (eVar 2)) aNil))))))
@[irreducible] def C_all_names : CF := bodyF 4 B_all_names
def B_all_cases  : SF :=
  (sSeq (sSet 1 (eLst (aCons (eTup aNil) aNil)))
    (sSeq (sFor (iVal (eVar 0)) (.nm 2) (sSet 1 (eLc2 (iVal (eVar 1)) (.nm 3) tYesF (iVal (eTup (aCons (eC k_UNSET) (aCons (eC k_EMPTY) (aCons (eC k_FULL) aNil))))) (.nm 4) tYesF (eOp addO (eVar 3) (eTup (aCons (eTup (aCons (eVar 2) (aCons (eVar 4) aNil))) aNil))) [3, 4] [4])))
    (sRet (eVar 1))))
@[irreducible] def C_all_cases : CF := bodyF 5 B_all_cases
def B_begun  : SF :=
  (sRet (eDc (iVal (eVar 0)) (.tp [1, 2]) (tOf (eOp neO (eVar 2) (eC k_UNSET))) (eVar 1) (eIf (tOf (eOp eqO (eVar 2) (eC k_EMPTY))) (eTup aNil) (eTup (aCons (eTup (aCons (eVar 1) aNil)) aNil))) [1, 2]))
@[irreducible] def C_begun : CF := bodyF 3 B_begun
def B_length_of  : SF :=
  (sRet (eCall sumF (aCons (eLc (iVal (eVar 0)) (.nm 1) tYesF (eCall lenF (aCons (eVar 1) aNil)) [1]) aNil)))
@[irreducible] def C_length_of : CF := bodyF 2 B_length_of
def B_put_together  : SF :=
  (sSeq (sIf (tAndF (tOf (eOp gtO (eCall lenF (aCons (eVar 0) aNil)) (eC (.int 0)))) (tAndF (tOf (eOp gtO (eCall lenF (aCons (eVar 1) aNil)) (eC (.int 0)))) (tAndF (tOf (eIsi isStr (eOp ixO (eVar 0) (eNeg (eC (.int 1)))))) (tOf (eIsi isStr (eOp ixO (eVar 1) (eC (.int 0)))))))) (sRet (eOp addO (eOp addO (eSl (eVar 0) pNone (pSome (eNeg (eC (.int 1))))) (eTup (aCons (eOp addO (eOp ixO (eVar 0) (eNeg (eC (.int 1)))) (eOp ixO (eVar 1) (eC (.int 0)))) aNil))) (eSl (eVar 1) (pSome (eC (.int 1))) pNone))) sNx)
    (sRet (eOp addO (eVar 0) (eVar 1))))
@[irreducible] def C_put_together : CF := bodyF 2 B_put_together
def B_Runner___init__  : SF :=
  (sSeq (sFldS A_Runner "values_now" (eVar 1) (eVar 0))
    (sFldS A_Runner "spots_seen" (eLst aNil) (eVar 0)))
@[irreducible] def C_Runner___init__ : CF := bodyF 2 B_Runner___init__
def B_Runner_part (r_Runner_part : CF) (r_Runner_worked : CF) : SF :=
  (sSeq (sAsg (.tp [8, 9, 10]) (eVar 1))
    (sSeq (sSet 3 (eOp rinO (eVar 8) (eFld A_Runner "values_now" (eVar 0))))
    (sSeq (sSet 4 (eGet2 getO (eFld A_Runner "values_now" (eVar 0)) (eVar 8) (eTup aNil)))
    (sSeq (sSet 5 (eOr (eNot (eVar 3)) (eAnd (eCallD C_is_hard (aCons (eVar 9) aNil)) (eOp eqO (eVar 4) (eTup aNil)))))
    (sSeq (sSet 6 (eCallD C_kind_of (aCons (eVar 9) aNil)))
    (sSeq (sIf (tOrF (tOf (eOp eqO (eVar 6) (eC (.str [])))) (tAndF (tOf (eOp neO (eVar 6) (eC (.str [43])))) (tNotF (tOf (eVar 5))))) (sRet (eVar 4)) sNx)
    (sSeq (sIf (tAndF (tOf (eOp eqO (eVar 6) (eC (.str [43])))) (tOf (eVar 5))) (sRet (eTup aNil)) sNx)
    (sSeq (sExpr (eM "list" appendM (eFld A_Runner "spots_seen" (eVar 0)) (aCons (eVar 2) aNil)))
    (sSeq (sSet 7 (eMeth A_Runner "worked" r_Runner_worked (eVar 0) (aCons (eVar 10) (aCons (eVar 2) aNil))))
    (sSeq (sIf (tOf (eOp eqO (eVar 6) (eC (.str [63])))) (sRaise A_Stop "message" (eVar 7)) sNx)
    (sSeq (sIf (tOf (eOp eqO (eVar 6) (eC (.str [61])))) (sPut putO (eVar 7) (eFld A_Runner "values_now" (eVar 0)) (eVar 8)) sNx)
    (sRet (eVar 7)))))))))))))
def B_Runner_worked (r_Runner_part : CF) (r_Runner_worked : CF) : SF :=
  (sSeq (sSet 3 (eTup aNil))
    (sSeq (sFor (iEn (aCons (eVar 1) aNil)) (.tp [4, 5]) (sSeq (sSet 6 (eIf (tOf (eIsi isStr (eVar 5))) (eTup (aCons (eVar 5) aNil)) (eMeth A_Runner "part" r_Runner_part (eVar 0) (aCons (eVar 5) (aCons (eOp addO (eVar 2) (eTup (aCons (eVar 4) aNil))) aNil)))))
    (sSet 3 (eCallD C_put_together (aCons (eVar 3) (aCons (eVar 6) aNil))))))
    (sSeq (sIf (tOf (eOp gtO (eCallD C_length_of (aCons (eVar 3) aNil)) (eC k_MOST_LONG))) sNever sNx)
    (sRet (eVar 3)))))
mutual
def C_Runner_part : Nat → CF
  | 0 => fun _ _ => .stuck
  | n + 1 => bodyF 11 (B_Runner_part (C_Runner_part n) (C_Runner_worked n))
def C_Runner_worked : Nat → CF
  | 0 => fun _ _ => .stuck
  | n + 1 => bodyF 7 (B_Runner_worked (C_Runner_part n) (C_Runner_worked n))
end
def B_Runner_done_row  : SF :=
  (sIf (tOf (eOp eqO (eOp ixO (eVar 2) (eC (.int 0))) (eC k_DROP))) (sExpr (eGet2 popO (eFld A_Runner "values_now" (eVar 0)) (eOp ixO (eVar 2) (eC (.int 1))) (eC .non))) (sIf (tOf (eOp eqO (eOp ixO (eVar 2) (eC (.int 0))) (eC k_CHECK))) (sExpr (eMeth A_Runner "worked" (C_Runner_worked 10) (eVar 0) (aCons (eOp ixO (eVar 2) (eC (.int 1))) (aCons (eTup (aCons (eVar 1) aNil)) aNil)))) (sIf (tOrF (tOf (eOp neO (eOp ixO (eVar 2) (eC (.int 0))) (eC k_GIVE))) (tOf (eOp rnotInO (eOp ixO (eVar 2) (eC (.int 1))) (eFld A_Runner "values_now" (eVar 0))))) (sSeq (sSet 3 (eMeth A_Runner "worked" (C_Runner_worked 10) (eVar 0) (aCons (eOp ixO (eVar 2) (eC (.int 2))) (aCons (eTup (aCons (eVar 1) aNil)) aNil))))
    (sPut putO (eVar 3) (eFld A_Runner "values_now" (eVar 0)) (eOp ixO (eVar 2) (eC (.int 1))))) sNx)))
@[irreducible] def C_Runner_done_row : CF := bodyF 4 B_Runner_done_row
def B_Runner_run_rows  : SF :=
  (sSeq (sTryR 2 A_Stop "message" k_STOPPED [] (sFor (iEn (aCons (eVar 1) aNil)) (.tp [3, 4]) (sX (sExpr (eMeth A_Runner "done_row" C_Runner_done_row (eVar 0) (aCons (eVar 3) (aCons (eVar 4) aNil)))))))
    (sRet (eTup (aCons (eC k_DONE) (aCons (eDc (iVal (eCall sortedDF (aCons (eFld A_Runner "values_now" (eVar 0)) aNil))) (.nm 5) tYesF (eVar 5) (eOp rixO (eFld A_Runner "values_now" (eVar 0)) (eVar 5)) [5]) aNil)))))
@[irreducible] def C_Runner_run_rows : CF := bodyF 6 B_Runner_run_rows
def B_outcome_in  : SF :=
  (sRet (eMeth A_Runner "run_rows" C_Runner_run_rows (eMake A_Runner C_Runner___init__ (aCons (eCallD C_begun (aCons (eVar 1) aNil)) aNil)) (aCons (eVar 0) aNil)))
@[irreducible] def C_outcome_in : CF := bodyF 2 B_outcome_in
def B_outcomes  : SF :=
  (sRet (eDcN (iVal (eCallD C_all_cases (aCons (eVar 1) aNil))) (.nm 2) tYesF (eVar 2) (eCallD C_outcome_in (aCons (eVar 0) (aCons (eVar 2) aNil))) [2]))
@[irreducible] def C_outcomes : CF := bodyF 3 B_outcomes
def B_environment_of  : SF :=
  (sRet (eDc (iVal (eVar 0)) (.tp [1, 2]) (tOf (eOp neO (eVar 2) (eC k_UNSET))) (eVar 1) (eIf (tOf (eOp eqO (eVar 2) (eC k_EMPTY))) (eC (.str [])) (eC k_ONE_SIGN)) [1, 2]))
@[irreducible] def C_environment_of : CF := bodyF 3 B_environment_of
def B_need_name  : SF :=
  (sSeq (sIf (tNotF (tOf (eCallD C_is_name (aCons (eVar 0) aNil)))) sNever sNx)
    (sRet (eVar 0)))
@[irreducible] def C_need_name : CF := bodyF 1 B_need_name
def B_done_ends  : SF :=
  (sSeq (sSet 2 (eCallD C_outcomes (aCons (eVar 0) (aCons (eVar 1) aNil))))
    (sRet (eLock 2 (eLc (iKeyT (eVar 2)) (.nm 3) (tOf (eOp eqO (eOp ixO (eOp tixO (eVar 2) (eVar 3)) (eC (.int 0))) (eC k_DONE))) (eTup (aCons (eVar 3) (aCons (eOp ixO (eOp tixO (eVar 2) (eVar 3)) (eC (.int 1))) aNil))) [3]))))
@[irreducible] def C_done_ends : CF := bodyF 4 B_done_ends
def B_is_plain_word  : SF :=
  (sRet (eCall allF (aCons (eLc (iVal (eVar 0)) (.nm 1) tYesF (eIsi isStr (eVar 1)) [1]) aNil)))
@[irreducible] def C_is_plain_word : CF := bodyF 2 B_is_plain_word
def B_is_fixed  : SF :=
  (sSeq (sSet 2 (eLc (iVal (eVar 0)) (.tp [3, 4]) tYesF (eGet1 (eVar 4) (eVar 1)) [3, 4]))
    (sSeq (sIf (tOrF (tOf (eOp eqO (eVar 2) (eLst aNil))) (tAndF (tOf (eOp isNotO (eOp ixO (eVar 2) (eC (.int 0))) (eC .non))) (tNotF (tOf (eCallD C_is_plain_word (aCons (eOp ixO (eVar 2) (eC (.int 0))) aNil)))))) (sRet (eC (.bl false))) sNx)
    (sRet (eCall allF (aCons (eLc (iVal (eVar 2)) (.nm 5) tYesF (eOp eqO (eVar 5) (eOp ixO (eVar 2) (eC (.int 0)))) [5]) aNil)))))
@[irreducible] def C_is_fixed : CF := bodyF 6 B_is_fixed
def B_fixed  : SF :=
  (sSeq (sSet 1 (eCallD C_all_names (aCons (eLst (aCons (eCallD C_need_file (aCons (eVar 0) aNil)) aNil)) (aCons (eTup aNil) aNil))))
    (sSeq (sSet 2 (eCallD C_done_ends (aCons (eVar 0) (aCons (eVar 1) aNil))))
    (sSeq (sSet 3 eD0)
    (sSeq (sFor (iVal (eVar 1)) (.nm 4) (sIf (tOf (eCallD C_is_fixed (aCons (eVar 2) (aCons (eVar 4) aNil)))) (sSeq (sSet 5 (eGet1 (eOp ixO (eOp ixO (eVar 2) (eC (.int 0))) (eC (.int 1))) (eVar 4)))
    (sPut putO (eIf (tOf (eOp isO (eVar 5) (eC .non))) (eC .non) (eM "str" joinTM (eC (.str [])) (aCons (eVar 5) aNil))) (eVar 3) (eVar 4))) sNx))
    (sRet (eVar 3))))))
@[irreducible] def C_fixed : CF := bodyF 6 B_fixed
def B_longer  : SF :=
  (sRet (eDc (iVal (eVar 0)) (.tp [1, 2]) (tOf (eOp neO (eVar 2) (eC k_UNSET))) (eVar 1) (eIf (tOf (eOp eqO (eVar 2) (eC k_EMPTY))) (eC (.str [])) (eC (.str [97, 97]))) [1, 2]))
@[irreducible] def C_longer : CF := bodyF 3 B_longer
def B_unfixed  : SF :=
  (sSeq (sExpr (eCallD C_need_file (aCons (eVar 0) aNil)))
    (sSeq (sSet 2 (eCallD C_all_names (aCons (eLst (aCons (eVar 0) aNil)) (aCons (eLst (aCons (eCallD C_need_name (aCons (eVar 1) aNil)) aNil)) aNil))))
    (sSeq (sSet 3 (eCallD C_done_ends (aCons (eVar 0) (aCons (eVar 2) aNil))))
    (sSeq (sFor (iVal (eVar 3)) (.tp [4, 5]) (sSeq (sSet 6 (eGet1 (eVar 5) (eVar 1)))
    (sSeq (sIf (tAndF (tOf (eOp isNotO (eVar 6) (eC .non))) (tNotF (tOf (eCallD C_is_plain_word (aCons (eVar 6) aNil))))) (sRet (eTup (aCons (eCallD C_environment_of (aCons (eVar 4) aNil)) (aCons (eCallD C_longer (aCons (eVar 4) aNil)) aNil)))) sNx)
    (sIf (tOf (eOp neO (eVar 6) (eGet1 (eOp ixO (eOp ixO (eVar 3) (eC (.int 0))) (eC (.int 1))) (eVar 1)))) (sRet (eTup (aCons (eCallD C_environment_of (aCons (eOp ixO (eOp ixO (eVar 3) (eC (.int 0))) (eC (.int 0))) aNil)) (aCons (eCallD C_environment_of (aCons (eVar 4) aNil)) aNil)))) sNx))))
    (sRet (eC .non))))))
@[irreducible] def C_unfixed : CF := bodyF 7 B_unfixed
def B_breaking_case  : SF :=
  (sSeq (sExpr (eCallD C_need_file (aCons (eVar 0) aNil)))
    (sSeq (sSet 2 (eCallD C_all_names (aCons (eLst (aCons (eVar 0) aNil)) (aCons (eLst (aCons (eCallD C_need_name (aCons (eVar 1) aNil)) aNil)) aNil))))
    (sSeq (sFor (iVal (eCallD C_done_ends (aCons (eVar 0) (aCons (eVar 2) aNil)))) (.tp [3, 4]) (sIf (tOf (eOp eqO (eGet2 getO (eVar 4) (eVar 1) (eTup aNil)) (eTup aNil))) (sRet (eVar 3)) sNx))
    (sRet (eC .non)))))
@[irreducible] def C_breaking_case : CF := bodyF 5 B_breaking_case
def B_lasts  : SF :=
  (sRet (eOp isO (eCallD C_breaking_case (aCons (eVar 0) (aCons (eVar 1) aNil))) (eC .non)))
@[irreducible] def C_lasts : CF := bodyF 2 B_lasts
def B_breaker  : SF :=
  (sSeq (sSet 2 (eCallD C_breaking_case (aCons (eVar 0) (aCons (eVar 1) aNil))))
    (sSeq (sIf (tOf (eOp isO (eVar 2) (eC .non))) (sRet (eC .non)) sNx)
    (sRet (eTup (aCons (eTup (aCons (eTup (aCons (eC k_CHECK) (aCons (eTup (aCons (eTup (aCons (eVar 1) (aCons (eC (.str [58, 61])) (aCons (eTup (aCons (eC k_BREAKING) aNil)) aNil)))) aNil)) aNil))) aNil)) (aCons (eCallD C_environment_of (aCons (eVar 2) aNil)) aNil))))))
@[irreducible] def C_breaker : CF := bodyF 3 B_breaker
def B__law_mixed  : SF :=
  (sSeq (sSet 0 (eOp modO (eCall intF (aCons (eVar 0) aNil)) (eC (.int 2147483647))))
    (sRet (eOp modO (eOp mulO (eOp modO (eOp addO (eOp addO (eOp mulO (eVar 0) (eOp addO (eC (.int 48271)) (eOp mulO (eOp mulO (eC (.int 2)) (eVar 1)) (eVar 1)))) (eOp mulO (eC (.int 69621)) (eVar 1))) (eC (.int 11))) (eC (.int 2147483647))) (eC (.int 69621))) (eC (.int 2147483629)))))
@[irreducible] def C__law_mixed : CF := bodyF 2 B__law_mixed
def B__law_begin  : SF :=
  (sSeq (sSet 1 (eIf (tOf (eOp neO (eVar 0) (eLst aNil))) (eCall listF (aCons (eVar 0) aNil)) (eLst (aCons (eC (.int 0)) aNil))))
    (sRet (eDisp (qCons (eC (.str [99, 101, 108, 108, 115])) (eVar 1) (qCons (eC (.str [108, 101, 102, 116, 115])) (eLc (iVal (eVar 1)) (.nm 2) tYesF (eIf (tOf (eOp geO (eVar 2) (eOp powO (eC (.int 10)) (eC (.int 18))))) (eVar 2) (eC (.int 0))) [2]) (qCons (eC (.str [97, 116])) (eC (.int 0)) (qCons (eC (.str [114, 111, 111, 109])) (eC (.int 0)) qNil)))))))
@[irreducible] def C__law_begin : CF := bodyF 3 B__law_begin
def B__law_draw  : SF :=
  (sSeq (sSet 2 (eOp rixO (eVar 0) (eC (.str [97, 116]))))
    (sSeq (sPut putO (eOp addO (eVar 2) (eC (.int 1))) (eVar 0) (eC (.str [97, 116])))
    (sSeq (sSet 3 (eOp modO (eCall intF (aCons (eVar 2) aNil)) (eCall lenF (aCons (eOp rixO (eVar 0) (eC (.str [99, 101, 108, 108, 115]))) aNil))))
    (sSeq (sSet 4 (eOp ixO (eOp rixO (eVar 0) (eC (.str [108, 101, 102, 116, 115]))) (eVar 3)))
    (sSeq (sIf (tOf (eOp gtO (eVar 4) (eC (.int 0)))) (sSeq (sPut lputO (eOp fdivO (eVar 4) (eVar 1)) (eOp rixO (eVar 0) (eC (.str [108, 101, 102, 116, 115]))) (eVar 3))
    (sRet (eOp modO (eCall intF (aCons (eVar 4) aNil)) (eVar 1)))) sNx)
    (sSeq (sSet 5 (eCallD C__law_mixed (aCons (eCallD C__law_mixed (aCons (eOp ixO (eOp rixO (eVar 0) (eC (.str [99, 101, 108, 108, 115]))) (eVar 3)) (aCons (eVar 2) aNil))) (aCons (eOp addO (eC (.int 40)) (eVar 2)) aNil))))
    (sRet (eOp modO (eOp fdivO (eCall intF (aCons (eOp addO (eOp mulO (eVar 5) (eC (.int 2147483647))) (eCallD C__law_mixed (aCons (eVar 5) (aCons (eOp addO (eC (.int 7)) (eVar 2)) aNil)))) aNil)) (eC (.int 64))) (eVar 1)))))))))
@[irreducible] def C__law_draw : CF := bodyF 6 B__law_draw
def B__law_worked (r__law_worked : CF) : SF :=
  (sSeq (sSet 3 (eC (.str [])))
    (sSeq (sFor (iVal (eVar 1)) (.nm 4) (sSeq (sIf (tOf (eIsi isStr (eVar 4))) (sSeq (sSet 3 (eOp addO (eVar 3) (eVar 4)))
    sCt) sNx)
    (sSeq (sAsg (.tp [6, 7, 8]) (eVar 4))
    (sSeq (sSet 5 (eOr (eOp rnotInO (eVar 6) (eVar 0)) (eAnd (eOp eqO (eSl (eVar 7) pNone (pSome (eC (.int 1)))) (eC (.str [58]))) (eOp eqO (eOp rixO (eVar 0) (eVar 6)) (eC (.str []))))))
    (sIf (tOrF (tOf (eOp eqO (eVar 7) (eC (.str [])))) (tAndF (tOf (eOp neO (eSl (eVar 7) (pSome (eNeg (eC (.int 1)))) pNone) (eC (.str [43])))) (tNotF (tOf (eVar 5))))) (sSet 3 (eOp addO (eVar 3) (eGet2 getO (eVar 0) (eVar 6) (eC (.str []))))) (sIf (tOrF (tOf (eOp neO (eSl (eVar 7) (pSome (eNeg (eC (.int 1)))) pNone) (eC (.str [43])))) (tNotF (tOf (eVar 5)))) (sSeq (sAsg (.tp [9, 10]) (eCallD r__law_worked (aCons (eVar 0) (aCons (eVar 8) (aCons (eVar 2) aNil)))))
    (sSeq (sIf (tOrF (tOf (eVar 10)) (tOf (eOp eqO (eSl (eVar 7) (pSome (eNeg (eC (.int 1)))) pNone) (eC (.str [63]))))) (sRet (eTup (aCons (eVar 9) (aCons (eC (.bl true)) aNil)))) sNx)
    (sSeq (sIf (tOf (eOp eqO (eSl (eVar 7) (pSome (eNeg (eC (.int 1)))) pNone) (eC (.str [61])))) (sPut putO (eVar 9) (eVar 0) (eVar 6)) sNx)
    (sSet 3 (eOp addO (eVar 3) (eVar 9)))))) sNx))))))
    (sSeq (sExpr (eM "list" appendM (eVar 2) (aCons (eCall lenF (aCons (eVar 3) aNil)) aNil)))
    (sRet (eTup (aCons (eSl (eVar 3) pNone (pSome (eC (.int 100000)))) (aCons (eC (.bl false)) aNil)))))))
mutual
def C__law_worked : Nat → CF
  | 0 => fun _ _ => .stuck
  | n + 1 => bodyF 11 (B__law_worked (C__law_worked n))
end
def B__law_run_seen  : SF :=
  (sSeq (sSet 0 (eCall dictF (aCons (eVar 0) aNil)))
    (sSeq (sFor (iVal (eVar 1)) (.nm 3) (sIf (tOf (eOp eqO (eOp ixO (eVar 3) (eC (.int 0))) (eC (.str [100, 114, 111, 112])))) (sExpr (eGet2 popO (eVar 0) (eOp ixO (eVar 3) (eC (.int 1))) (eC .non))) (sIf (tOrF (tOf (eOp neO (eOp ixO (eVar 3) (eC (.int 0))) (eC (.str [103, 105, 118, 101])))) (tOf (eOp rnotInO (eOp ixO (eVar 3) (eC (.int 1))) (eVar 0)))) (sSeq (sAsg (.tp [4, 5]) (eCallD (C__law_worked 8) (aCons (eVar 0) (aCons (eOp ixO (eVar 3) (eNeg (eC (.int 1)))) (aCons (eVar 2) aNil)))))
    (sSeq (sIf (tOf (eVar 5)) (sRet (eTup (aCons (eC (.str [115, 116, 111, 112, 112, 101, 100])) (aCons (eVar 4) aNil)))) sNx)
    (sIf (tOf (eOp neO (eOp ixO (eVar 3) (eC (.int 0))) (eC (.str [99, 104, 101, 99, 107])))) (sPut putO (eVar 4) (eVar 0) (eOp ixO (eVar 3) (eC (.int 1)))) sNx))) sNx)))
    (sRet (eTup (aCons (eC (.str [100, 111, 110, 101])) (aCons (eVar 0) aNil))))))
@[irreducible] def C__law_run_seen : CF := bodyF 6 B__law_run_seen
def B__law_run  : SF :=
  (sRet (eCallD C__law_run_seen (aCons (eVar 0) (aCons (eVar 1) (aCons (eLst aNil) aNil)))))
@[irreducible] def C__law_run : CF := bodyF 2 B__law_run
def B__law_names  : SF :=
  (sSeq (sPar 3 4 (aCons (eLst (aCons (eC (.str [65])) (aCons (eC (.str [66])) (aCons (eC (.str [67])) (aCons (eC (.str [68, 95])) (aCons (eC (.str [68, 66])) (aCons (eC (.str [72, 79, 83, 84])) (aCons (eC (.str [88])) (aCons (eC (.str [89])) (aCons (eC (.str [90, 95, 90])) (aCons (eC (.str [65, 66, 67, 68, 69, 70, 71, 72])) aNil))))))))))) (aCons (eLst aNil) aNil)))
    (sSeq (sFor (iRange (aCons (eVar 1) aNil)) (.nm 2) (sExpr (eM "list" appendM (eVar 4) (aCons (eM "list" popM (eVar 3) (aCons (eCallD C__law_draw (aCons (eVar 0) (aCons (eCall lenF (aCons (eVar 3) aNil)) aNil))) aNil)) aNil))))
    (sRet (eCall sortedF (aCons (eVar 4) aNil)))))
@[irreducible] def C__law_names : CF := bodyF 5 B__law_names
def B__law_rows  : SF :=
  (sSeq (sSet 2 (eTup (aCons (eTup (aCons (eC (.str [100, 114, 111, 112])) (aCons (eVar 0) aNil))) (aCons (eTup (aCons (eC (.str [99, 104, 101, 99, 107])) (aCons (eTup (aCons (eTup (aCons (eVar 0) (aCons (eC (.str [63])) (aCons (eTup (aCons (eC (.str [120])) aNil)) aNil)))) aNil)) aNil))) aNil))))
    (sSeq (sSet 3 (eLst (aCons (eTup (aCons (eTup aNil) (aCons eD0 (aCons (eLst (aCons (eC (.bl false)) (aCons (eC (.bl false)) aNil))) aNil)))) (aCons (eTup (aCons (eTup (aCons (eTup (aCons (eC (.str [115, 101, 116])) (aCons (eVar 0) (aCons (eTup (aCons (eC (.str [120])) aNil)) aNil)))) aNil)) (aCons (eDisp (qCons (eVar 0) (eC (.str [120])) qNil)) (aCons (eLst (aCons (eC (.bl true)) (aCons (eC (.bl false)) aNil))) aNil)))) aNil))))
    (sSeq (sSet 3 (eOp addO (eVar 3) (eLst (aCons (eTup (aCons (eTup (aCons (eTup (aCons (eC (.str [115, 101, 116])) (aCons (eVar 0) (aCons (eTup aNil) aNil)))) aNil)) (aCons (eDisp (qCons (eVar 0) (eC (.str [])) qNil)) (aCons (eLst (aCons (eC (.bl false)) (aCons (eC (.bl false)) aNil))) aNil)))) (aCons (eTup (aCons (eTup (aCons (eTup (aCons (eC (.str [100, 114, 111, 112])) (aCons (eVar 0) aNil))) aNil)) (aCons (eDisp (qCons (eVar 0) (eC .non) qNil)) (aCons (eLst (aCons (eC (.bl false)) (aCons (eC (.bl false)) aNil))) aNil)))) aNil)))))
    (sSeq (sSet 3 (eOp addO (eVar 3) (eLst (aCons (eTup (aCons (eTup (aCons (eTup (aCons (eC (.str [103, 105, 118, 101])) (aCons (eVar 0) (aCons (eTup (aCons (eC (.str [120])) aNil)) aNil)))) aNil)) (aCons eD0 (aCons (eLst (aCons (eC (.bl false)) (aCons (eC (.bl false)) aNil))) aNil)))) (aCons (eTup (aCons (eVar 2) (aCons eD0 (aCons (eLst (aCons (eC (.bl true)) (aCons (eC (.bl true)) aNil))) aNil)))) aNil)))))
    (sSeq (sExpr (eM "list" appendM (eVar 3) (aCons (eTup (aCons (eTup (aCons (eTup (aCons (eC (.str [115, 101, 116])) (aCons (eVar 0) (aCons (eTup (aCons (eTup (aCons (eVar 0) (aCons (eC (.str [58, 45])) (aCons (eTup (aCons (eC (.str [120])) aNil)) aNil)))) aNil)) aNil)))) aNil)) (aCons eD0 (aCons (eLst (aCons (eC (.bl true)) (aCons (eC (.bl false)) aNil))) aNil)))) aNil)))
    (sSeq (sExpr (eM "list" appendM (eVar 3) (aCons (eTup (aCons (eTup (aCons (eTup (aCons (eC (.str [115, 101, 116])) (aCons (eVar 1) (aCons (eTup (aCons (eTup (aCons (eVar 0) (aCons (eC (.str [58, 43])) (aCons (eTup (aCons (eC (.str [111, 110])) aNil)) aNil)))) aNil)) aNil)))) aNil)) (aCons eD0 (aCons (eLst (aCons (eC (.bl false)) (aCons (eC (.bl false)) aNil))) aNil)))) aNil)))
    (sSeq (sExpr (eM "list" appendM (eVar 3) (aCons (eTup (aCons (eTup (aCons (eTup (aCons (eC (.str [115, 101, 116])) (aCons (eVar 1) (aCons (eTup (aCons (eTup (aCons (eVar 0) (aCons (eC (.str [58, 43])) (aCons (eTup (aCons (eC (.str [111, 110])) aNil)) aNil)))) aNil)) aNil)))) (aCons (eTup (aCons (eC (.str [115, 101, 116])) (aCons (eVar 1) (aCons (eTup (aCons (eTup (aCons (eVar 1) (aCons (eC (.str [58, 45])) (aCons (eTup (aCons (eC (.str [111, 110])) aNil)) aNil)))) aNil)) aNil)))) aNil))) (aCons (eDisp (qCons (eVar 1) (eC (.str [111, 110])) qNil)) (aCons (eLst (aCons (eC (.bl false)) (aCons (eC (.bl true)) aNil))) aNil)))) aNil)))
    (sSeq (sExpr (eM "list" appendM (eVar 3) (aCons (eTup (aCons (eTup (aCons (eTup (aCons (eC (.str [99, 104, 101, 99, 107])) (aCons (eTup (aCons (eTup (aCons (eVar 0) (aCons (eC (.str [63])) (aCons (eTup (aCons (eC (.str [110, 111])) aNil)) aNil)))) aNil)) aNil))) (aCons (eTup (aCons (eC (.str [115, 101, 116])) (aCons (eVar 1) (aCons (eTup (aCons (eTup (aCons (eVar 0) (aCons (eC (.str [43])) (aCons (eTup (aCons (eC (.str [121])) aNil)) aNil)))) aNil)) aNil)))) aNil))) (aCons (eDisp (qCons (eVar 1) (eC (.str [121])) qNil)) (aCons (eLst (aCons (eC (.bl false)) (aCons (eC (.bl true)) aNil))) aNil)))) aNil)))
    (sSeq (sExpr (eM "list" appendM (eVar 3) (aCons (eTup (aCons (eTup (aCons (eTup (aCons (eC (.str [99, 104, 101, 99, 107])) (aCons (eTup (aCons (eTup (aCons (eVar 0) (aCons (eC (.str [58, 63])) (aCons (eTup (aCons (eC (.str [110, 111])) aNil)) aNil)))) aNil)) aNil))) aNil)) (aCons eD0 (aCons (eLst (aCons (eC (.bl true)) (aCons (eC (.bl false)) aNil))) aNil)))) aNil)))
    (sSeq (sExpr (eM "list" appendM (eVar 3) (aCons (eTup (aCons (eTup (aCons (eTup (aCons (eC (.str [100, 114, 111, 112])) (aCons (eVar 0) aNil))) (aCons (eTup (aCons (eC (.str [99, 104, 101, 99, 107])) (aCons (eTup (aCons (eTup (aCons (eVar 0) (aCons (eC (.str [61])) (aCons (eTup (aCons (eC (.str [122])) aNil)) aNil)))) aNil)) aNil))) aNil))) (aCons (eDisp (qCons (eVar 0) (eC (.str [122])) qNil)) (aCons (eLst (aCons (eC (.bl true)) (aCons (eC (.bl false)) aNil))) aNil)))) aNil)))
    (sSeq (sExpr (eM "list" appendM (eVar 3) (aCons (eTup (aCons (eTup (aCons (eTup (aCons (eC (.str [115, 101, 116])) (aCons (eVar 0) (aCons (eTup (aCons (eTup (aCons (eVar 1) (aCons (eC (.str [])) (aCons (eTup aNil) aNil)))) aNil)) aNil)))) (aCons (eTup (aCons (eC (.str [100, 114, 111, 112])) (aCons (eVar 1) aNil))) aNil))) (aCons (eDisp (qCons (eVar 1) (eC .non) qNil)) (aCons (eLst (aCons (eC (.bl false)) (aCons (eC (.bl false)) aNil))) aNil)))) aNil)))
    (sSeq (sExpr (eM "list" appendM (eVar 3) (aCons (eTup (aCons (eTup (aCons (eTup (aCons (eC (.str [115, 101, 116])) (aCons (eVar 0) (aCons (eTup (aCons (eC (.str [120])) (aCons (eTup (aCons (eVar 1) (aCons (eC (.str [])) (aCons (eTup aNil) aNil)))) aNil))) aNil)))) (aCons (eTup (aCons (eC (.str [115, 101, 116])) (aCons (eVar 1) (aCons (eTup (aCons (eC (.str [49])) aNil)) aNil)))) aNil))) (aCons (eDisp (qCons (eVar 1) (eC (.str [49])) qNil)) (aCons (eLst (aCons (eC (.bl true)) (aCons (eC (.bl true)) aNil))) aNil)))) aNil)))
    (sSeq (sExpr (eM "list" appendM (eVar 3) (aCons (eTup (aCons (eTup (aCons (eTup (aCons (eC (.str [99, 104, 101, 99, 107])) (aCons (eTup (aCons (eTup (aCons (eVar 0) (aCons (eC (.str [43])) (aCons (eTup (aCons (eTup (aCons (eVar 1) (aCons (eC (.str [63])) (aCons (eTup aNil) aNil)))) aNil)) aNil)))) aNil)) aNil))) (aCons (eTup (aCons (eC (.str [100, 114, 111, 112])) (aCons (eVar 0) aNil))) aNil))) (aCons (eDisp (qCons (eVar 0) (eC .non) qNil)) (aCons (eLst (aCons (eC (.bl false)) (aCons (eC (.bl false)) aNil))) aNil)))) aNil)))
    (sSeq (sSet 4 (eTup (aCons (eC (.str [99, 104, 101, 99, 107])) (aCons (eTup (aCons (eTup (aCons (eVar 0) (aCons (eC (.str [43])) (aCons (eTup (aCons (eTup (aCons (eVar 1) (aCons (eC (.str [63])) (aCons (eTup (aCons (eC (.str [110, 111])) aNil)) aNil)))) aNil)) aNil)))) aNil)) aNil))))
    (sSeq (sExpr (eM "list" appendM (eVar 3) (aCons (eTup (aCons (eTup (aCons (eTup (aCons (eC (.str [100, 114, 111, 112])) (aCons (eVar 1) aNil))) (aCons (eVar 4) aNil))) (aCons (eDisp (qCons (eVar 0) (eC .non) (qCons (eVar 1) (eC .non) qNil))) (aCons (eLst (aCons (eC (.bl false)) (aCons (eC (.bl false)) aNil))) aNil)))) aNil)))
    (sSeq (sExpr (eM "list" appendM (eVar 3) (aCons (eTup (aCons (eTup (aCons (eTup (aCons (eC (.str [99, 104, 101, 99, 107])) (aCons (eTup (aCons (eTup (aCons (eVar 0) (aCons (eC (.str [58, 61])) (aCons (eTup (aCons (eC (.str [120])) aNil)) aNil)))) aNil)) aNil))) (aCons (eTup (aCons (eC (.str [103, 105, 118, 101])) (aCons (eVar 1) (aCons (eTup (aCons (eC (.str [121])) aNil)) aNil)))) aNil))) (aCons eD0 (aCons (eLst (aCons (eC (.bl true)) (aCons (eC (.bl false)) aNil))) aNil)))) aNil)))
    (sSeq (sExpr (eM "list" appendM (eVar 3) (aCons (eTup (aCons (eTup (aCons (eTup (aCons (eC (.str [99, 104, 101, 99, 107])) (aCons (eTup (aCons (eTup (aCons (eVar 0) (aCons (eC (.str [58, 61])) (aCons (eTup aNil) aNil)))) aNil)) aNil))) aNil)) (aCons eD0 (aCons (eLst (aCons (eC (.bl false)) (aCons (eC (.bl false)) aNil))) aNil)))) aNil)))
    (sRet (eOp addO (eVar 3) (eLst (aCons (eTup (aCons (eOp addO (eVar 2) (eTup (aCons (eTup (aCons (eC (.str [115, 101, 116])) (aCons (eVar 1) (aCons (eTup (aCons (eC (.str [121])) aNil)) aNil)))) aNil))) (aCons eD0 (aCons (eLst (aCons (eC (.bl true)) (aCons (eC (.bl true)) aNil))) aNil)))) aNil)))))))))))))))))))))
@[irreducible] def C__law_rows : CF := bodyF 5 B__law_rows
def B__law_shown  : SF :=
  (sSeq (sIf (tOrF (tNotF (tOf (eIsi isTup (eVar 2)))) (tOf (eOp neO (eCall lenF (aCons (eVar 2) aNil)) (eC (.int 2))))) (sRet (eC (.bl false))) sNx)
    (sSeq (sSet 3 (eLc (iVal (eVar 2)) (.nm 4) tYesF (eCallD C__law_run (aCons (eVar 4) (aCons (eVar 0) aNil))) [4]))
    (sRet (eAnd (eOp eqO (eLc (iVal (eVar 3)) (.nm 5) tYesF (eOp ixO (eVar 5) (eC (.int 0))) [5]) (eOp repO (eLst (aCons (eC (.str [100, 111, 110, 101])) aNil)) (eC (.int 2)))) (eOp neO (eGet1 (eOp ixO (eOp ixO (eVar 3) (eC (.int 0))) (eC (.int 1))) (eVar 1)) (eGet1 (eOp ixO (eOp ixO (eVar 3) (eC (.int 1))) (eC (.int 1))) (eVar 1)))))))
@[irreducible] def C__law_shown : CF := bodyF 6 B__law_shown
def B__law_broken  : SF :=
  (sSeq (sIf (tOrF (tNotF (tOf (eIsi isTup (eVar 2)))) (tOrF (tOf (eOp neO (eCall lenF (aCons (eVar 2) aNil)) (eC (.int 2)))) (tOrF (tOf (eOp neO (eCall lenF (aCons (eOp ixO (eVar 2) (eC (.int 0))) aNil)) (eC (.int 1)))) (tOf (eOp notInO (eOp ixO (eOp ixO (eOp ixO (eVar 2) (eC (.int 0))) (eC (.int 0))) (eC (.int 0))) (eTup (aCons (eC (.str [103, 105, 118, 101])) (aCons (eC (.str [99, 104, 101, 99, 107])) aNil)))))))) (sRet (eC (.bl false))) sNx)
    (sSeq (sPar 3 4 (aCons (eCallD C__law_run (aCons (eOp ixO (eVar 2) (eC (.int 1))) (aCons (eVar 0) aNil))) (aCons (eCallD C__law_run (aCons (eOp ixO (eVar 2) (eC (.int 1))) (aCons (eOp addO (eVar 0) (eOp ixO (eVar 2) (eC (.int 0)))) aNil))) aNil)))
    (sRet (eAnd (eOp eqO (eLst (aCons (eOp ixO (eVar 3) (eC (.int 0))) (aCons (eOp ixO (eVar 4) (eC (.int 0))) aNil))) (eOp repO (eLst (aCons (eC (.str [100, 111, 110, 101])) aNil)) (eC (.int 2)))) (eOp neO (eGet1 (eOp ixO (eVar 3) (eC (.int 1))) (eVar 1)) (eGet1 (eOp ixO (eVar 4) (eC (.int 1))) (eVar 1)))))))
@[irreducible] def C__law_broken : CF := bodyF 5 B__law_broken
def B__law_right  : SF :=
  (sSeq (sIf (tOrF (tOf (eOp dneO (eCallD C_fixed (aCons (eVar 0) aNil)) (eVar 2))) (tOrF (tOf (eOp neO (eCall listDF (aCons (eCallD C_fixed (aCons (eVar 0) aNil)) aNil)) (eCall sortedDF (aCons (eVar 2) aNil)))) (tOf (eOp neO (eLc (iVal (eVar 1)) (.nm 5) tYesF (eCallD C_lasts (aCons (eVar 0) (aCons (eVar 5) aNil))) [5]) (eVar 3))))) (sRet (eC (.bl false))) sNx)
    (sSeq (sSet 4 (eAnd (eOp eqO (eVar 3) (eLst (aCons (eC (.bl true)) (aCons (eC (.bl true)) aNil)))) (eOp deqO (eVar 2) eD0)))
    (sSeq (sFor (iZip (aCons (eVar 1) (aCons (eVar 3) aNil))) (.tp [5, 6]) (sSeq (sPar 7 8 (aCons (eCallD C_unfixed (aCons (eVar 0) (aCons (eVar 5) aNil))) (aCons (eCallD C_breaker (aCons (eVar 0) (aCons (eVar 5) aNil))) aNil)))
    (sSeq (sIf (tOrF (tOf (eOp neO (eOp isO (eVar 7) (eC .non)) (eOr (eOp rinO (eVar 5) (eVar 2)) (eVar 4)))) (tOf (eOp neO (eOp isO (eVar 8) (eC .non)) (eVar 6)))) (sRet (eC (.bl false))) sNx)
    (sSeq (sIf (tAndF (tOf (eOp isNotO (eVar 7) (eC .non))) (tNotF (tOf (eCallD C__law_shown (aCons (eVar 0) (aCons (eVar 5) (aCons (eVar 7) aNil))))))) (sRet (eC (.bl false))) sNx)
    (sIf (tAndF (tOf (eOp isNotO (eVar 8) (eC .non))) (tNotF (tOf (eCallD C__law_broken (aCons (eVar 0) (aCons (eVar 5) (aCons (eVar 8) aNil))))))) (sRet (eC (.bl false))) sNx)))))
    (sRet (eC (.bl true))))))
@[irreducible] def C__law_right : CF := bodyF 9 B__law_right
def B_law  : SF :=
  (sSeq (sSet 1 (eCallD C__law_begin (aCons (eVar 0) aNil)))
    (sSeq (sFor (iRange (aCons (eOp addO (eC (.int 3)) (eCall minF (aCons (eC (.int 3)) (aCons (eCall lenF (aCons (eVar 0) aNil)) aNil)))) aNil)) (.nm 2) (sSeq (sSet 3 (eCallD C__law_names (aCons (eVar 1) (aCons (eC (.int 2)) aNil))))
    (sSeq (sSet 3 (eIf (tOf (eOp eqO (eCallD C__law_draw (aCons (eVar 1) (aCons (eC (.int 2)) aNil))) (eC (.int 0)))) (eRev (eVar 3) (eNeg (eC (.int 1)))) (eVar 3)))
    (sFor (iVal (eCallD C__law_rows (aCons (eOp ixO (eVar 3) (eC (.int 0))) (aCons (eOp ixO (eVar 3) (eC (.int 1))) aNil)))) (.tp [4, 5, 6]) (sIf (tNotF (tOf (eCallD C__law_right (aCons (eVar 4) (aCons (eVar 3) (aCons (eVar 5) (aCons (eVar 6) aNil))))))) (sRet (eC (.bl false))) sNx)))))
    (sRet (eAnd (eOp isNotO (eCallD C_unfixed (aCons (eTup aNil) (aCons (eC (.str [78, 69, 87])) aNil))) (eC .non)) (eAnd (eNot (eCallD C_lasts (aCons (eTup aNil) (aCons (eC (.str [78, 69, 87])) aNil)))) (eOp deqO (eCallD C_fixed (aCons (eTup aNil) aNil)) eD0))))))
@[irreducible] def C_law : CF := bodyF 7 B_law
end LK34

set_option Elab.async false
set_option linter.all false
set_option maxRecDepth 100000
set_option maxHeartbeats 4000000
/-! the walk; printed by gen.py -/
namespace LK34
open PySem PySem.Spec PyProof.Rows L2 Al
def topS (i : Nat) : Stmt := PySem.Challenge.pw_envrows_k34_fixed_and_lasting_by_hand.main.body.getD i (.Pass ⟨0, 0, 0, 0⟩)
abbrev st_is_name : Stmt := topS 21
abbrev N_is_name : List Str := ["thing", "sign"]
theorem sc_is_name : FnScope N_is_name ["thing"] (defScope st_is_name) := ⟨rfl, rfl, rfl, by decide +kernel, rfl, by decide +kernel, by decide +kernel⟩
abbrev st_is_plain : Stmt := topS 22
abbrev N_is_plain : List Str := ["thing", "sign"]
theorem sc_is_plain : FnScope N_is_plain ["thing"] (defScope st_is_plain) := ⟨rfl, rfl, rfl, by decide +kernel, rfl, by decide +kernel, by decide +kernel⟩
abbrev st_is_part : Stmt := topS 23
abbrev N_is_part : List Str := ["thing", "levels"]
theorem sc_is_part : FnScope N_is_part ["thing", "levels"] (defScope st_is_part) := ⟨rfl, rfl, rfl, by decide +kernel, rfl, by decide +kernel, by decide +kernel⟩
abbrev st_is_text_of : Stmt := topS 24
abbrev N_is_text_of : List Str := ["thing", "levels", "at", "piece"]
theorem sc_is_text_of : FnScope N_is_text_of ["thing", "levels"] (defScope st_is_text_of) := ⟨rfl, rfl, rfl, by decide +kernel, rfl, by decide +kernel, by decide +kernel⟩
abbrev st_is_text : Stmt := topS 25
abbrev N_is_text : List Str := ["thing"]
theorem sc_is_text : FnScope N_is_text ["thing"] (defScope st_is_text) := ⟨rfl, rfl, rfl, by decide +kernel, rfl, by decide +kernel, by decide +kernel⟩
abbrev st_is_row : Stmt := topS 26
abbrev N_is_row : List Str := ["thing"]
theorem sc_is_row : FnScope N_is_row ["thing"] (defScope st_is_row) := ⟨rfl, rfl, rfl, by decide +kernel, rfl, by decide +kernel, by decide +kernel⟩
abbrev st_text_of_row : Stmt := topS 27
abbrev N_text_of_row : List Str := ["row"]
theorem sc_text_of_row : FnScope N_text_of_row ["row"] (defScope st_text_of_row) := ⟨rfl, rfl, rfl, by decide +kernel, rfl, by decide +kernel, by decide +kernel⟩
abbrev st_names_in_text : Stmt := topS 28
abbrev N_names_in_text : List Str := ["text", "found", "piece"]
theorem sc_names_in_text : FnScope N_names_in_text ["text"] (defScope st_names_in_text) := ⟨rfl, rfl, rfl, by decide +kernel, rfl, by decide +kernel, by decide +kernel⟩
abbrev st_names_in : Stmt := topS 29
abbrev N_names_in : List Str := ["rows", "found", "row"]
theorem sc_names_in : FnScope N_names_in ["rows"] (defScope st_names_in) := ⟨rfl, rfl, rfl, by decide +kernel, rfl, by decide +kernel, by decide +kernel⟩
abbrev st_need_file : Stmt := topS 30
abbrev N_need_file : List Str := ["thing", "number", "row"]
theorem sc_need_file : FnScope N_need_file ["thing"] (defScope st_need_file) := ⟨rfl, rfl, rfl, by decide +kernel, rfl, by decide +kernel, by decide +kernel⟩
abbrev st_kind_of : Stmt := topS 31
abbrev N_kind_of : List Str := ["sign"]
theorem sc_kind_of : FnScope N_kind_of ["sign"] (defScope st_kind_of) := ⟨rfl, rfl, rfl, by decide +kernel, rfl, by decide +kernel, by decide +kernel⟩
abbrev st_is_hard : Stmt := topS 32
abbrev N_is_hard : List Str := ["sign"]
theorem sc_is_hard : FnScope N_is_hard ["sign"] (defScope st_is_hard) := ⟨rfl, rfl, rfl, by decide +kernel, rfl, by decide +kernel, by decide +kernel⟩
abbrev st_all_names : Stmt := topS 33
abbrev N_all_names : List Str := ["files", "names", "found", "file"]
theorem sc_all_names : FnScope N_all_names ["files", "names"] (defScope st_all_names) := ⟨rfl, rfl, rfl, by decide +kernel, rfl, by decide +kernel, by decide +kernel⟩
abbrev st_all_cases : Stmt := topS 41
abbrev N_all_cases : List Str := ["names", "found", "name", "case", "state"]
theorem sc_all_cases : FnScope N_all_cases ["names"] (defScope st_all_cases) := ⟨rfl, rfl, rfl, by decide +kernel, rfl, by decide +kernel, by decide +kernel⟩
abbrev st_begun : Stmt := topS 42
abbrev N_begun : List Str := ["case", "name", "state"]
theorem sc_begun : FnScope N_begun ["case"] (defScope st_begun) := ⟨rfl, rfl, rfl, by decide +kernel, rfl, by decide +kernel, by decide +kernel⟩
abbrev st_length_of : Stmt := topS 43
abbrev N_length_of : List Str := ["word", "item"]
theorem sc_length_of : FnScope N_length_of ["word"] (defScope st_length_of) := ⟨rfl, rfl, rfl, by decide +kernel, rfl, by decide +kernel, by decide +kernel⟩
abbrev st_put_together : Stmt := topS 44
abbrev N_put_together : List Str := ["one", "other"]
theorem sc_put_together : FnScope N_put_together ["one", "other"] (defScope st_put_together) := ⟨rfl, rfl, rfl, by decide +kernel, rfl, by decide +kernel, by decide +kernel⟩
abbrev st_Runner___init__ : Stmt := clsS (topS 46) 0
abbrev N_Runner___init__ : List Str := ["self", "values"]
theorem sc_Runner___init__ : FnScope N_Runner___init__ ["self", "values"] (defScope st_Runner___init__) := ⟨rfl, rfl, rfl, by decide +kernel, rfl, by decide +kernel, by decide +kernel⟩
abbrev st_Runner_part : Stmt := clsS (topS 46) 1
abbrev N_Runner_part : List Str := ["self", "piece", "spot", "is_set", "own", "lacks", "kind", "worth", "name", "sign", "text"]
theorem sc_Runner_part : FnScope N_Runner_part ["self", "piece", "spot"] (defScope st_Runner_part) := ⟨rfl, rfl, rfl, by decide +kernel, rfl, by decide +kernel, by decide +kernel⟩
abbrev st_Runner_worked : Stmt := clsS (topS 46) 2
abbrev N_Runner_worked : List Str := ["self", "text", "spot", "found", "at", "piece", "more"]
theorem sc_Runner_worked : FnScope N_Runner_worked ["self", "text", "spot"] (defScope st_Runner_worked) := ⟨rfl, rfl, rfl, by decide +kernel, rfl, by decide +kernel, by decide +kernel⟩
abbrev st_Runner_done_row : Stmt := clsS (topS 46) 3
abbrev N_Runner_done_row : List Str := ["self", "number", "row", "worth"]
theorem sc_Runner_done_row : FnScope N_Runner_done_row ["self", "number", "row"] (defScope st_Runner_done_row) := ⟨rfl, rfl, rfl, by decide +kernel, rfl, by decide +kernel, by decide +kernel⟩
abbrev st_Runner_run_rows : Stmt := clsS (topS 46) 4
abbrev N_Runner_run_rows : List Str := ["self", "rows", "e", "number", "row", "name"]
theorem sc_Runner_run_rows : FnScope N_Runner_run_rows ["self", "rows"] (defScope st_Runner_run_rows) := ⟨rfl, rfl, rfl, by decide +kernel, rfl, by decide +kernel, by decide +kernel⟩
abbrev st_outcome_in : Stmt := topS 47
abbrev N_outcome_in : List Str := ["rows", "case"]
theorem sc_outcome_in : FnScope N_outcome_in ["rows", "case"] (defScope st_outcome_in) := ⟨rfl, rfl, rfl, by decide +kernel, rfl, by decide +kernel, by decide +kernel⟩
abbrev st_outcomes : Stmt := topS 50
abbrev N_outcomes : List Str := ["rows", "names", "case"]
theorem sc_outcomes : FnScope N_outcomes ["rows", "names"] (defScope st_outcomes) := ⟨rfl, rfl, rfl, by decide +kernel, rfl, by decide +kernel, by decide +kernel⟩
abbrev st_environment_of : Stmt := topS 51
abbrev N_environment_of : List Str := ["case", "name", "state"]
theorem sc_environment_of : FnScope N_environment_of ["case"] (defScope st_environment_of) := ⟨rfl, rfl, rfl, by decide +kernel, rfl, by decide +kernel, by decide +kernel⟩
abbrev st_need_name : Stmt := topS 54
abbrev N_need_name : List Str := ["thing"]
theorem sc_need_name : FnScope N_need_name ["thing"] (defScope st_need_name) := ⟨rfl, rfl, rfl, by decide +kernel, rfl, by decide +kernel, by decide +kernel⟩
abbrev st_done_ends : Stmt := topS 55
abbrev N_done_ends : List Str := ["file", "names", "told", "case"]
theorem sc_done_ends : FnScope N_done_ends ["file", "names"] (defScope st_done_ends) := ⟨rfl, rfl, rfl, by decide +kernel, rfl, by decide +kernel, by decide +kernel⟩
abbrev st_is_plain_word : Stmt := topS 56
abbrev N_is_plain_word : List Str := ["word", "item"]
theorem sc_is_plain_word : FnScope N_is_plain_word ["word"] (defScope st_is_plain_word) := ⟨rfl, rfl, rfl, by decide +kernel, rfl, by decide +kernel, by decide +kernel⟩
abbrev st_is_fixed : Stmt := topS 57
abbrev N_is_fixed : List Str := ["ends", "name", "words", "case", "words_now", "word"]
theorem sc_is_fixed : FnScope N_is_fixed ["ends", "name"] (defScope st_is_fixed) := ⟨rfl, rfl, rfl, by decide +kernel, rfl, by decide +kernel, by decide +kernel⟩
abbrev st_fixed : Stmt := topS 58
abbrev N_fixed : List Str := ["file", "names", "ends", "found", "name", "word"]
theorem sc_fixed : FnScope N_fixed ["file"] (defScope st_fixed) := ⟨rfl, rfl, rfl, by decide +kernel, rfl, by decide +kernel, by decide +kernel⟩
abbrev st_longer : Stmt := topS 59
abbrev N_longer : List Str := ["case", "name", "state"]
theorem sc_longer : FnScope N_longer ["case"] (defScope st_longer) := ⟨rfl, rfl, rfl, by decide +kernel, rfl, by decide +kernel, by decide +kernel⟩
abbrev st_unfixed : Stmt := topS 60
abbrev N_unfixed : List Str := ["file", "name", "names", "ends", "case", "words", "word"]
theorem sc_unfixed : FnScope N_unfixed ["file", "name"] (defScope st_unfixed) := ⟨rfl, rfl, rfl, by decide +kernel, rfl, by decide +kernel, by decide +kernel⟩
abbrev st_breaking_case : Stmt := topS 61
abbrev N_breaking_case : List Str := ["file", "name", "names", "case", "words"]
theorem sc_breaking_case : FnScope N_breaking_case ["file", "name"] (defScope st_breaking_case) := ⟨rfl, rfl, rfl, by decide +kernel, rfl, by decide +kernel, by decide +kernel⟩
abbrev st_lasts : Stmt := topS 62
abbrev N_lasts : List Str := ["file", "name"]
theorem sc_lasts : FnScope N_lasts ["file", "name"] (defScope st_lasts) := ⟨rfl, rfl, rfl, by decide +kernel, rfl, by decide +kernel, by decide +kernel⟩
abbrev st_breaker : Stmt := topS 63
abbrev N_breaker : List Str := ["file", "name", "case"]
theorem sc_breaker : FnScope N_breaker ["file", "name"] (defScope st_breaker) := ⟨rfl, rfl, rfl, by decide +kernel, rfl, by decide +kernel, by decide +kernel⟩
abbrev st__law_mixed : Stmt := topS 65
abbrev N__law_mixed : List Str := ["cell", "k"]
theorem sc__law_mixed : FnScope N__law_mixed ["cell", "k"] (defScope st__law_mixed) := ⟨rfl, rfl, rfl, by decide +kernel, rfl, by decide +kernel, by decide +kernel⟩
abbrev st__law_begin : Stmt := topS 66
abbrev N__law_begin : List Str := ["script", "cells", "cell"]
theorem sc__law_begin : FnScope N__law_begin ["script"] (defScope st__law_begin) := ⟨rfl, rfl, rfl, by decide +kernel, rfl, by decide +kernel, by decide +kernel⟩
abbrev st__law_draw : Stmt := topS 67
abbrev N__law_draw : List Str := ["state", "many", "at", "place", "left", "number"]
theorem sc__law_draw : FnScope N__law_draw ["state", "many"] (defScope st__law_draw) := ⟨rfl, rfl, rfl, by decide +kernel, rfl, by decide +kernel, by decide +kernel⟩
abbrev st__law_worked : Stmt := topS 68
abbrev N__law_worked : List Str := ["env", "text", "seen", "found", "piece", "is_lacking", "name", "sign", "inner", "worked", "is_over"]
theorem sc__law_worked : FnScope N__law_worked ["env", "text", "seen"] (defScope st__law_worked) := ⟨rfl, rfl, rfl, by decide +kernel, rfl, by decide +kernel, by decide +kernel⟩
abbrev st__law_run_seen : Stmt := topS 69
abbrev N__law_run_seen : List Str := ["env", "rows", "seen", "row", "worked", "is_over"]
theorem sc__law_run_seen : FnScope N__law_run_seen ["env", "rows", "seen"] (defScope st__law_run_seen) := ⟨rfl, rfl, rfl, by decide +kernel, rfl, by decide +kernel, by decide +kernel⟩
abbrev st__law_run : Stmt := topS 70
abbrev N__law_run : List Str := ["env", "rows"]
theorem sc__law_run : FnScope N__law_run ["env", "rows"] (defScope st__law_run) := ⟨rfl, rfl, rfl, by decide +kernel, rfl, by decide +kernel, by decide +kernel⟩
abbrev st__law_names : Stmt := topS 71
abbrev N__law_names : List Str := ["state", "many", "k", "some", "found"]
theorem sc__law_names : FnScope N__law_names ["state", "many"] (defScope st__law_names) := ⟨rfl, rfl, rfl, by decide +kernel, rfl, by decide +kernel, by decide +kernel⟩
abbrev st__law_rows : Stmt := topS 72
abbrev N__law_rows : List Str := ["a", "b", "never", "rows", "row"]
theorem sc__law_rows : FnScope N__law_rows ["a", "b"] (defScope st__law_rows) := ⟨rfl, rfl, rfl, by decide +kernel, rfl, by decide +kernel, by decide +kernel⟩
abbrev st__law_shown : Stmt := topS 73
abbrev N__law_shown : List Str := ["rows", "name", "found", "ends", "env", "end"]
theorem sc__law_shown : FnScope N__law_shown ["rows", "name", "found"] (defScope st__law_shown) := ⟨rfl, rfl, rfl, by decide +kernel, rfl, by decide +kernel, by decide +kernel⟩
abbrev st__law_broken : Stmt := topS 74
abbrev N__law_broken : List Str := ["rows", "name", "found", "one", "other"]
theorem sc__law_broken : FnScope N__law_broken ["rows", "name", "found"] (defScope st__law_broken) := ⟨rfl, rfl, rfl, by decide +kernel, rfl, by decide +kernel, by decide +kernel⟩
abbrev st__law_right : Stmt := topS 75
abbrev N__law_right : List Str := ["rows", "names", "due", "last", "is_never", "name", "is_lasting", "found", "heard"]
theorem sc__law_right : FnScope N__law_right ["rows", "names", "due", "last"] (defScope st__law_right) := ⟨rfl, rfl, rfl, by decide +kernel, rfl, by decide +kernel, by decide +kernel⟩
abbrev st_law : Stmt := topS 76
abbrev N_law : List Str := ["script", "state", "turn", "names", "rows", "due", "last"]
theorem sc_law : FnScope N_law ["script"] (defScope st_law) := ⟨rfl, rfl, rfl, by decide +kernel, rfl, by decide +kernel, by decide +kernel⟩
abbrev st_Stop : Stmt := clsS (topS 45) 0
abbrev N_Stop : List Str := ["self", "message"]
theorem sc_Stop : FnScope N_Stop ["self", "message"] (defScope st_Stop) := ⟨rfl, rfl, rfl, by decide +kernel, rfl, by decide +kernel, by decide +kernel⟩
structure Facts (K : PySem.W.Frag) (mg : Str → Option Value) : Prop where
  c_BREAKING : Cn K mg "BREAKING" k_BREAKING
  c_CAPITALS : Cn K mg "CAPITALS" k_CAPITALS
  c_CHECK : Cn K mg "CHECK" k_CHECK
  c_DONE : Cn K mg "DONE" k_DONE
  c_DROP : Cn K mg "DROP" k_DROP
  c_EMPTY : Cn K mg "EMPTY" k_EMPTY
  c_FULL : Cn K mg "FULL" k_FULL
  c_GIVE : Cn K mg "GIVE" k_GIVE
  c_MOST_ASKED : Cn K mg "MOST_ASKED" k_MOST_ASKED
  c_MOST_IN_NAME : Cn K mg "MOST_IN_NAME" k_MOST_IN_NAME
  c_MOST_LEVELS : Cn K mg "MOST_LEVELS" k_MOST_LEVELS
  c_MOST_LONG : Cn K mg "MOST_LONG" k_MOST_LONG
  c_MOST_NAMES : Cn K mg "MOST_NAMES" k_MOST_NAMES
  c_MOST_PIECES : Cn K mg "MOST_PIECES" k_MOST_PIECES
  c_MOST_PLAIN : Cn K mg "MOST_PLAIN" k_MOST_PLAIN
  c_MOST_ROWS : Cn K mg "MOST_ROWS" k_MOST_ROWS
  c_ONE_SIGN : Cn K mg "ONE_SIGN" k_ONE_SIGN
  c_PLAIN_SIGNS : Cn K mg "PLAIN_SIGNS" k_PLAIN_SIGNS
  c_SET : Cn K mg "SET" k_SET
  c_SIGNS : Cn K mg "SIGNS" k_SIGNS
  c_STOPPED : Cn K mg "STOPPED" k_STOPPED
  c_UNSET : Cn K mg "UNSET" k_UNSET
  n_all : mg "all" = none
  n_dict : mg "dict" = none
  n_enumerate : mg "enumerate" = none
  n_int : mg "int" = none
  n_isinstance : mg "isinstance" = none
  n_len : mg "len" = none
  n_list : mg "list" = none
  n_min : mg "min" = none
  n_range : mg "range" = none
  n_set : mg "set" = none
  n_sorted : mg "sorted" = none
  n_str : mg "str" = none
  n_sum : mg "sum" = none
  n_tuple : mg "tuple" = none
  n_zip : mg "zip" = none
  d_is_name : Df K mg "is_name" st_is_name ["thing"]
  d_is_plain : Df K mg "is_plain" st_is_plain ["thing"]
  d_is_part : Df K mg "is_part" st_is_part ["thing", "levels"]
  d_is_text_of : Df K mg "is_text_of" st_is_text_of ["thing", "levels"]
  d_is_text : Df K mg "is_text" st_is_text ["thing"]
  d_is_row : Df K mg "is_row" st_is_row ["thing"]
  d_text_of_row : Df K mg "text_of_row" st_text_of_row ["row"]
  d_names_in_text : Df K mg "names_in_text" st_names_in_text ["text"]
  d_names_in : Df K mg "names_in" st_names_in ["rows"]
  d_need_file : Df K mg "need_file" st_need_file ["thing"]
  d_kind_of : Df K mg "kind_of" st_kind_of ["sign"]
  d_is_hard : Df K mg "is_hard" st_is_hard ["sign"]
  d_all_names : Df K mg "all_names" st_all_names ["files", "names"]
  d_all_cases : Df K mg "all_cases" st_all_cases ["names"]
  d_begun : Df K mg "begun" st_begun ["case"]
  d_length_of : Df K mg "length_of" st_length_of ["word"]
  d_put_together : Df K mg "put_together" st_put_together ["one", "other"]
  d_Runner___init__ : Di K mg "Runner" A_Runner "Runner.__init__" st_Runner___init__ ["self", "values"]
  d_Runner_part : Dm K A_Runner "part" "Runner.part" st_Runner_part ["self", "piece", "spot"]
  d_Runner_worked : Dm K A_Runner "worked" "Runner.worked" st_Runner_worked ["self", "text", "spot"]
  d_Runner_done_row : Dm K A_Runner "done_row" "Runner.done_row" st_Runner_done_row ["self", "number", "row"]
  d_Runner_run_rows : Dm K A_Runner "run_rows" "Runner.run_rows" st_Runner_run_rows ["self", "rows"]
  d_outcome_in : Df K mg "outcome_in" st_outcome_in ["rows", "case"]
  d_outcomes : Df K mg "outcomes" st_outcomes ["rows", "names"]
  d_environment_of : Df K mg "environment_of" st_environment_of ["case"]
  d_need_name : Df K mg "need_name" st_need_name ["thing"]
  d_done_ends : Df K mg "done_ends" st_done_ends ["file", "names"]
  d_is_plain_word : Df K mg "is_plain_word" st_is_plain_word ["word"]
  d_is_fixed : Df K mg "is_fixed" st_is_fixed ["ends", "name"]
  d_fixed : Df K mg "fixed" st_fixed ["file"]
  d_longer : Df K mg "longer" st_longer ["case"]
  d_unfixed : Df K mg "unfixed" st_unfixed ["file", "name"]
  d_breaking_case : Df K mg "breaking_case" st_breaking_case ["file", "name"]
  d_lasts : Df K mg "lasts" st_lasts ["file", "name"]
  d_breaker : Df K mg "breaker" st_breaker ["file", "name"]
  d__law_mixed : Df K mg "_law_mixed" st__law_mixed ["cell", "k"]
  d__law_begin : Df K mg "_law_begin" st__law_begin ["script"]
  d__law_draw : Df K mg "_law_draw" st__law_draw ["state", "many"]
  d__law_worked : Df K mg "_law_worked" st__law_worked ["env", "text", "seen"]
  d__law_run_seen : Df K mg "_law_run_seen" st__law_run_seen ["env", "rows", "seen"]
  d__law_run : Df K mg "_law_run" st__law_run ["env", "rows"]
  d__law_names : Df K mg "_law_names" st__law_names ["state", "many"]
  d__law_rows : Df K mg "_law_rows" st__law_rows ["a", "b"]
  d__law_shown : Df K mg "_law_shown" st__law_shown ["rows", "name", "found"]
  d__law_broken : Df K mg "_law_broken" st__law_broken ["rows", "name", "found"]
  d__law_right : Df K mg "_law_right" st__law_right ["rows", "names", "due", "last"]
  d_law : Df K mg "law" st_law ["script"]
  cl_Runner : Cls K A_Runner
  na_Runner_spots_seen : NoAttr K A_Runner "spots_seen"
  na_Runner_values_now : NoAttr K A_Runner "values_now"
  x_Stop : Dx K mg "Stop" A_Stop "message" "Stop.__init__" st_Stop ["self", "message"]
section
variable {P : Program} {w : World} {K : PySem.W.Frag} {mg : Str → Option Value} {base : Heap}
theorem xc_Stop (Fx : Facts K mg) : XcF P w K mg base "Stop" A_Stop "message" := by
  refine Fx.x_Stop.xcf fun fI fd F => ?_
  refine Fun.ok (N := N_Stop) F sc_Stop (fun vs H Q E h => by obtain ⟨a, y, e, _⟩ := h; rw [e]; rfl) fun cdv A outer s H vs Q E hr h => ?_
  obtain ⟨a, y, rfl, ea, k⟩ := h
  refine ⟨_, pss_cons (ps_expr (pe_xinit rfl Fx.x_Stop.nE Fx.x_Stop.vV (pa_cons (pv 0) (pa_cons pe_str pa_nil)))) (pss_one (ps_xst (pv 0) (pv 1))), ?_⟩
  exact ⟨.ref a, rfl, a, A_Stop, [.str (toS [115, 116, 111, 112, 112, 101, 100])], rfl, by decide, Fx.x_Stop.ox, ea, y, rfl, .ref a, rfl, a, A_Stop, rfl, Fx.x_Stop.ox, Fx.x_Stop.no, ea, k⟩
theorem ok_is_name (Fx : Facts K mg) : OkF P w K mg base 1 "is_name" ["thing"] C_is_name := by
  unfold C_is_name
  have hN := sc_is_name.nd
  refine ok_def (k := 0) (N := N_is_name) (ps := ["thing"]) (st := st_is_name) (x := "is_name") (B := B_is_name) Fx.d_is_name sc_is_name fun f cdv A outer s H E hr hx hp tk => ?_
  exact (ass_cons (as_if (AW.at (aw_or (at_not (at_val (ae_isi isT_str (ae_var 0) Fx.n_isinstance Fx.n_str bt_str))) (aw_or1 (at_not (at_chain op_leA op_leA ae_int (ae_callB call_lenA Fx.n_len bt_len (aa_cons (ae_var 0) aa_nil)) (ae_cst Fx.c_MOST_IN_NAME)))))) (ass_one (as_ret ae_bl)) ass_nil)
    (ass_one (as_ret (ae_and (ae_cmp (op_neA hr.rm.units) (ae_ix (ae_var 0) ae_int) (ae_str [95])) (ae_and1 (ae_callB (call_allA rfl) Fx.n_all bt_all (aa_cons (ae_lc [("sign", 1)] rfl hN (ai_val (ae_var 0)) (by exact blk_ok (N := N_is_name) (sc := defScope st_is_name) rfl (by decide +kernel) (by decide +kernel) (by decide +kernel) (by decide +kernel)) (by decide) (fun _ _ _ _ _ => (ag_nm 1 hN)) (fun _ _ _ _ _ => ats_nil) (fun _ _ _ _ _ => (ae_cmp op_inA (ae_var 1) (ae_op op_addA (ae_cst Fx.c_CAPITALS) (ae_str [95]))))) aa_nil)))))))
theorem ok_is_plain (Fx : Facts K mg) : OkF P w K mg base 1 "is_plain" ["thing"] C_is_plain := by
  unfold C_is_plain
  have hN := sc_is_plain.nd
  refine ok_def (k := 0) (N := N_is_plain) (ps := ["thing"]) (st := st_is_plain) (x := "is_plain") (B := B_is_plain) Fx.d_is_plain sc_is_plain fun f cdv A outer s H E hr hx hp tk => ?_
  exact (ass_cons (as_if (AW.at (aw_or (at_not (at_val (ae_isi isT_str (ae_var 0) Fx.n_isinstance Fx.n_str bt_str))) (aw_or1 (at_not (at_chain op_leA op_leA ae_int (ae_callB call_lenA Fx.n_len bt_len (aa_cons (ae_var 0) aa_nil)) (ae_cst Fx.c_MOST_PLAIN)))))) (ass_one (as_ret ae_bl)) ass_nil)
    (ass_one (as_ret (ae_callB (call_allA rfl) Fx.n_all bt_all (aa_cons (ae_lc [("sign", 1)] rfl hN (ai_val (ae_var 0)) (by exact blk_ok (N := N_is_plain) (sc := defScope st_is_plain) rfl (by decide +kernel) (by decide +kernel) (by decide +kernel) (by decide +kernel)) (by decide) (fun _ _ _ _ _ => (ag_nm 1 hN)) (fun _ _ _ _ _ => ats_nil) (fun _ _ _ _ _ => (ae_cmp op_inA (ae_var 1) (ae_cst Fx.c_PLAIN_SIGNS)))) aa_nil)))))
theorem okg_is_part (Fx : Facts K mg) : ∀ n : Nat, OkF P w K mg base (1 + n) "is_part" ["thing", "levels"] (C_is_part n) ∧ OkF P w K mg base (1 + n) "is_text_of" ["thing", "levels"] (C_is_text_of n)
  | 0 => ⟨ok_zero Fx.d_is_part, ok_zero Fx.d_is_text_of⟩
  | n + 1 => by
    obtain ⟨ok_is_part_, ok_is_text_of_⟩ := okg_is_part Fx n
    have ok_is_name_ := (ok_is_name Fx : OkF P w K mg base 1 "is_name" ["thing"] _).mono (show 1 ≤ 1 + n by omega)
    have ok_is_plain_ := (ok_is_plain Fx : OkF P w K mg base 1 "is_plain" ["thing"] _).mono (show 1 ≤ 1 + n by omega)
    refine ⟨?_, ?_⟩
    · have hN := sc_is_part.nd
      refine ok_def (k := 1 + n) (N := N_is_part) (ps := ["thing", "levels"]) (st := st_is_part) (x := "is_part") (B := B_is_part (C_is_part n) (C_is_text_of n)) Fx.d_is_part sc_is_part fun f cdv A outer s H E hr hx hp tk => ?_
      exact (ass_cons (as_if (AW.at (aw_or (at_not (at_val (ae_isi isT_tup (ae_var 0) Fx.n_isinstance Fx.n_tuple bt_tuple))) (aw_or (at_cmp (op_neA hr.rm.units) (ae_callB call_lenA Fx.n_len bt_len (aa_cons (ae_var 0) aa_nil)) ae_int) (aw_or1 (at_not (at_val (ae_callO (ok_is_name_) hr hx (aa_cons (ae_ix (ae_var 0) ae_int) aa_nil) (len_cons len_nil)))))))) (ass_one (as_ret ae_bl)) ass_nil)
    (ass_cons (as_if (AW.at (aw_or (at_not (at_val (ae_isi isT_str (ae_ix (ae_var 0) ae_int) Fx.n_isinstance Fx.n_str bt_str))) (aw_or1 (at_cmp op_notInA (ae_ix (ae_var 0) ae_int) (ae_cst Fx.c_SIGNS))))) (ass_one (as_ret ae_bl)) ass_nil)
    (ass_cons (as_if (at_cmp (op_eqA hr.rm.units) (ae_ix (ae_var 0) ae_int) (ae_str [])) (ass_one (as_ret (ae_and (ae_isi isT_tup (ae_ix (ae_var 0) ae_int) Fx.n_isinstance Fx.n_tuple bt_tuple) (ae_and1 (ae_cmp (op_eqA hr.rm.units) (ae_callB call_lenA Fx.n_len bt_len (aa_cons (ae_ix (ae_var 0) ae_int) aa_nil)) ae_int))))) ass_nil)
    (ass_one (as_ret (ae_and (ae_cmp op_gtA (ae_var 1) ae_int) (ae_and1 (ae_callO (ok_is_text_of_) hr hx (aa_cons (ae_ix (ae_var 0) ae_int) (aa_cons (ae_var 1) aa_nil)) (len_cons (len_cons len_nil))))))))))
    · have hN := sc_is_text_of.nd
      refine ok_def (k := 1 + n) (N := N_is_text_of) (ps := ["thing", "levels"]) (st := st_is_text_of) (x := "is_text_of") (B := B_is_text_of (C_is_part n) (C_is_text_of n)) Fx.d_is_text_of sc_is_text_of fun f cdv A outer s H E hr hx hp tk => ?_
      exact (ass_cons (as_if (AW.at (aw_or (at_not (at_val (ae_isi isT_tup (ae_var 0) Fx.n_isinstance Fx.n_tuple bt_tuple))) (aw_or1 (at_cmp op_gtA (ae_callB call_lenA Fx.n_len bt_len (aa_cons (ae_var 0) aa_nil)) (ae_cst Fx.c_MOST_PIECES))))) (ass_one (as_ret ae_bl)) ass_nil)
    (ass_cons (as_for hp rfl (ai_enum (aa_cons (ae_var 0) aa_nil) Fx.n_enumerate) (ag_tp (is := [2, 3]) rfl (pgs_cons (pg_name (i := 2) hN rfl (by first | exact .inl rfl | exact .inr rfl) (by first | exact .inl rfl | exact .inr rfl)) (pgs_cons (pg_name (i := 3) hN rfl (by first | exact .inl rfl | exact .inr rfl) (by first | exact .inl rfl | exact .inr rfl)) pgs_nil))) (ass_cons (as_if (AW.at (aw_and (at_not (at_val (ae_callO (ok_is_plain_) hr hx (aa_cons (ae_var 3) aa_nil) (len_cons len_nil)))) (aw_and1 (at_not (at_val (ae_callO (ok_is_part_) hr hx (aa_cons (ae_var 3) (aa_cons (ae_op op_subA (ae_var 1) ae_int) aa_nil)) (len_cons (len_cons len_nil)))))))) (ass_one (as_ret ae_bl)) ass_nil)
    (ass_one (as_if (AW.at (aw_and (at_cmp op_gtA (ae_var 2) ae_int) (aw_and (at_val (ae_isi isT_str (ae_var 3) Fx.n_isinstance Fx.n_str bt_str)) (aw_and1 (at_val (ae_isi isT_str (ae_ix (ae_var 0) (ae_op op_subA (ae_var 2) ae_int)) Fx.n_isinstance Fx.n_str bt_str)))))) (ass_one (as_ret ae_bl)) ass_nil))))
    (ass_one (as_ret ae_bl))))
theorem ok_is_part (Fx : Facts K mg) (n : Nat) : OkF P w K mg base (1 + n) "is_part" ["thing", "levels"] (C_is_part n) := (okg_is_part Fx n).1
theorem ok_is_text_of (Fx : Facts K mg) (n : Nat) : OkF P w K mg base (1 + n) "is_text_of" ["thing", "levels"] (C_is_text_of n) := (okg_is_part Fx n).2
theorem ok_is_text (Fx : Facts K mg) : OkF P w K mg base 10 "is_text" ["thing"] C_is_text := by
  unfold C_is_text
  have ok_is_text_of_ := (ok_is_text_of Fx 8 : OkF P w K mg base 9 "is_text_of" ["thing", "levels"] _).mono (show 9 ≤ 9 by omega)
  have hN := sc_is_text.nd
  refine ok_def (k := 9) (N := N_is_text) (ps := ["thing"]) (st := st_is_text) (x := "is_text") (B := B_is_text) Fx.d_is_text sc_is_text fun f cdv A outer s H E hr hx hp tk => ?_
  exact (ass_one (as_ret (ae_callO (ok_is_text_of_) hr hx (aa_cons (ae_var 0) (aa_cons (ae_cst Fx.c_MOST_LEVELS) aa_nil)) (len_cons (len_cons len_nil)))))
theorem ok_is_row (Fx : Facts K mg) : OkF P w K mg base 11 "is_row" ["thing"] C_is_row := by
  unfold C_is_row
  have ok_is_name_ := (ok_is_name Fx : OkF P w K mg base 1 "is_name" ["thing"] _).mono (show 1 ≤ 10 by omega)
  have ok_is_text_ := (ok_is_text Fx : OkF P w K mg base 10 "is_text" ["thing"] _).mono (show 10 ≤ 10 by omega)
  have hN := sc_is_row.nd
  refine ok_def (k := 10) (N := N_is_row) (ps := ["thing"]) (st := st_is_row) (x := "is_row") (B := B_is_row) Fx.d_is_row sc_is_row fun f cdv A outer s H E hr hx hp tk => ?_
  exact (ass_cons (as_if (AW.at (aw_or (at_not (at_val (ae_isi isT_tup (ae_var 0) Fx.n_isinstance Fx.n_tuple bt_tuple))) (aw_or (at_cmp (op_eqA hr.rm.units) (ae_callB call_lenA Fx.n_len bt_len (aa_cons (ae_var 0) aa_nil)) ae_int) (aw_or1 (at_not (at_val (ae_isi isT_str (ae_ix (ae_var 0) ae_int) Fx.n_isinstance Fx.n_str bt_str))))))) (ass_one (as_ret ae_bl)) ass_nil)
    (ass_cons (as_if (at_cmp op_inA (ae_ix (ae_var 0) ae_int) (ae_tup (aa_cons (ae_cst Fx.c_SET) (aa_cons (ae_cst Fx.c_GIVE) aa_nil)))) (ass_one (as_ret (ae_and (ae_cmp (op_eqA hr.rm.units) (ae_callB call_lenA Fx.n_len bt_len (aa_cons (ae_var 0) aa_nil)) ae_int) (ae_and (ae_callO (ok_is_name_) hr hx (aa_cons (ae_ix (ae_var 0) ae_int) aa_nil) (len_cons len_nil)) (ae_and1 (ae_callO (ok_is_text_) hr hx (aa_cons (ae_ix (ae_var 0) ae_int) aa_nil) (len_cons len_nil))))))) ass_nil)
    (ass_cons (as_if (at_cmp (op_eqA hr.rm.units) (ae_ix (ae_var 0) ae_int) (ae_cst Fx.c_DROP)) (ass_one (as_ret (ae_and (ae_cmp (op_eqA hr.rm.units) (ae_callB call_lenA Fx.n_len bt_len (aa_cons (ae_var 0) aa_nil)) ae_int) (ae_and1 (ae_callO (ok_is_name_) hr hx (aa_cons (ae_ix (ae_var 0) ae_int) aa_nil) (len_cons len_nil)))))) ass_nil)
    (ass_one (as_ret (ae_and (ae_cmp (op_eqA hr.rm.units) (ae_ix (ae_var 0) ae_int) (ae_cst Fx.c_CHECK)) (ae_and (ae_cmp (op_eqA hr.rm.units) (ae_callB call_lenA Fx.n_len bt_len (aa_cons (ae_var 0) aa_nil)) ae_int) (ae_and1 (ae_callO (ok_is_text_) hr hx (aa_cons (ae_ix (ae_var 0) ae_int) aa_nil) (len_cons len_nil))))))))))
theorem ok_text_of_row (Fx : Facts K mg) : OkF P w K mg base 1 "text_of_row" ["row"] C_text_of_row := by
  unfold C_text_of_row
  have hN := sc_text_of_row.nd
  refine ok_def (k := 0) (N := N_text_of_row) (ps := ["row"]) (st := st_text_of_row) (x := "text_of_row") (B := B_text_of_row) Fx.d_text_of_row sc_text_of_row fun f cdv A outer s H E hr hx hp tk => ?_
  exact (ass_one (as_ret (ae_if (at_cmp (op_eqA hr.rm.units) (ae_ix (ae_var 0) ae_int) (ae_cst Fx.c_DROP)) (ae_tup aa_nil) (ae_ix (ae_var 0) (ae_neg ae_int)))))
theorem okg_names_in_text (Fx : Facts K mg) : ∀ n : Nat, OkF P w K mg base (0 + n) "names_in_text" ["text"] (C_names_in_text n)
  | 0 => ok_zero Fx.d_names_in_text
  | n + 1 => by
    have ok_names_in_text_ := okg_names_in_text Fx n
    refine ?_
    · have hN := sc_names_in_text.nd
      refine ok_def (k := 0 + n) (N := N_names_in_text) (ps := ["text"]) (st := st_names_in_text) (x := "names_in_text") (B := B_names_in_text (C_names_in_text n)) Fx.d_names_in_text sc_names_in_text fun f cdv A outer s H E hr hx hp tk => ?_
      exact (ass_cons (as_set 1 hN (ae_lst aa_nil))
    (ass_cons (as_for hp rfl (ai_val (ae_var 0)) (ag_nm 2 hN) (ass_one (as_if (at_val (ae_isi isT_tup (ae_var 2) Fx.n_isinstance Fx.n_tuple bt_tuple)) (ass_cons (as_expr (ae_m PySem.F.plainAttrs_list PySem.F.slot_list_append PySem.F.type_list_append mt_appendA (ae_var 1) (aa_cons (ae_ix (ae_var 2) ae_int) aa_nil)))
    (ass_one (as_expr (ae_m PySem.F.plainAttrs_list PySem.F.slot_list_extend PySem.F.type_list_extend mt_extendA (ae_var 1) (aa_cons (ae_callO (ok_names_in_text_) hr hx (aa_cons (ae_ix (ae_var 2) ae_int) aa_nil) (len_cons len_nil)) aa_nil))))) ass_nil)))
    (ass_one (as_ret (ae_var 1)))))
theorem ok_names_in_text (Fx : Facts K mg) (n : Nat) : OkF P w K mg base (0 + n) "names_in_text" ["text"] (C_names_in_text n) := (okg_names_in_text Fx n)
theorem ok_names_in (Fx : Facts K mg) : OkF P w K mg base 9 "names_in" ["rows"] C_names_in := by
  unfold C_names_in
  have ok_text_of_row_ := (ok_text_of_row Fx : OkF P w K mg base 1 "text_of_row" ["row"] _).mono (show 1 ≤ 8 by omega)
  have ok_names_in_text_ := (ok_names_in_text Fx 8 : OkF P w K mg base 8 "names_in_text" ["text"] _).mono (show 8 ≤ 8 by omega)
  have hN := sc_names_in.nd
  refine ok_def (k := 8) (N := N_names_in) (ps := ["rows"]) (st := st_names_in) (x := "names_in") (B := B_names_in) Fx.d_names_in sc_names_in fun f cdv A outer s H E hr hx hp tk => ?_
  exact (ass_cons (as_setLc 1 [("row", 2)] rfl hN (sw_true rfl rfl rfl rfl) (ai_val (ae_var 0)) (by exact blk_ok (N := N_names_in) (sc := defScope st_names_in) rfl (by decide +kernel) (by decide +kernel) (by decide +kernel) (by decide +kernel)) (by decide) (fun _ _ _ _ _ => (ag_nm 2 hN)) (fun _ _ _ _ _ => (ats_one (at_cmp (op_neA hr.rm.units) (ae_ix (ae_var 2) ae_int) (ae_cst Fx.c_CHECK)))) (fun _ _ _ _ _ => (ae_ix (ae_var 2) ae_int)))
    (ass_cons (as_for hp rfl (ai_val (ae_var 0)) (ag_nm 2 hN) (ass_one (as_expr (ae_m PySem.F.plainAttrs_list PySem.F.slot_list_extend PySem.F.type_list_extend mt_extendA (ae_var 1) (aa_cons (ae_callO (ok_names_in_text_) hr hx (aa_cons (ae_callO (ok_text_of_row_) hr hx (aa_cons (ae_var 2) aa_nil) (len_cons len_nil)) aa_nil) (len_cons len_nil)) aa_nil)))))
    (ass_one (as_ret (ae_sortSet rfl Fx.n_sorted Fx.n_set (ae_var 1) bt_sorted bt_set)))))
theorem ok_need_file (Fx : Facts K mg) : OkF P w K mg base 12 "need_file" ["thing"] C_need_file := by
  unfold C_need_file
  have ok_is_row_ := (ok_is_row Fx : OkF P w K mg base 11 "is_row" ["thing"] _).mono (show 11 ≤ 11 by omega)
  have ok_names_in_ := (ok_names_in Fx : OkF P w K mg base 9 "names_in" ["rows"] _).mono (show 9 ≤ 11 by omega)
  have hN := sc_need_file.nd
  refine ok_def (k := 11) (N := N_need_file) (ps := ["thing"]) (st := st_need_file) (x := "need_file") (B := B_need_file) Fx.d_need_file sc_need_file fun f cdv A outer s H E hr hx hp tk => ?_
  exact (ass_cons (as_if (AW.at (aw_or (at_not (at_val (ae_isi isT_tup (ae_var 0) Fx.n_isinstance Fx.n_tuple bt_tuple))) (aw_or1 (at_cmp op_gtA (ae_callB call_lenA Fx.n_len bt_len (aa_cons (ae_var 0) aa_nil)) (ae_cst Fx.c_MOST_ROWS))))) (ass_one as_never) ass_nil)
    (ass_cons (as_for hp rfl (ai_enum (aa_cons (ae_var 0) aa_nil) Fx.n_enumerate) (ag_tp (is := [1, 2]) rfl (pgs_cons (pg_name (i := 1) hN rfl (by first | exact .inl rfl | exact .inr rfl) (by first | exact .inl rfl | exact .inr rfl)) (pgs_cons (pg_name (i := 2) hN rfl (by first | exact .inl rfl | exact .inr rfl) (by first | exact .inl rfl | exact .inr rfl)) pgs_nil))) (ass_one (as_if (at_not (at_val (ae_callO (ok_is_row_) hr hx (aa_cons (ae_var 2) aa_nil) (len_cons len_nil)))) (ass_one as_never) ass_nil)))
    (ass_cons (as_if (at_cmp op_gtA (ae_callB call_lenA Fx.n_len bt_len (aa_cons (ae_callO (ok_names_in_) hr hx (aa_cons (ae_var 0) aa_nil) (len_cons len_nil)) aa_nil)) (ae_cst Fx.c_MOST_NAMES)) (ass_one as_never) ass_nil)
    (ass_one (as_ret (ae_var 0))))))
theorem ok_kind_of (Fx : Facts K mg) : OkF P w K mg base 1 "kind_of" ["sign"] C_kind_of := by
  unfold C_kind_of
  have hN := sc_kind_of.nd
  refine ok_def (k := 0) (N := N_kind_of) (ps := ["sign"]) (st := st_kind_of) (x := "kind_of") (B := B_kind_of) Fx.d_kind_of sc_kind_of fun f cdv A outer s H E hr hx hp tk => ?_
  exact (ass_one (as_ret (ae_sl (ae_var 0) (ao_some (ae_neg ae_int)) ao_none)))
theorem ok_is_hard (Fx : Facts K mg) : OkF P w K mg base 1 "is_hard" ["sign"] C_is_hard := by
  unfold C_is_hard
  have hN := sc_is_hard.nd
  refine ok_def (k := 0) (N := N_is_hard) (ps := ["sign"]) (st := st_is_hard) (x := "is_hard") (B := B_is_hard) Fx.d_is_hard sc_is_hard fun f cdv A outer s H E hr hx hp tk => ?_
  exact (ass_one (as_ret (ae_cmp (op_eqA hr.rm.units) (ae_sl (ae_var 0) ao_none (ao_some ae_int)) (ae_str [58]))))
theorem ok_all_names (Fx : Facts K mg) : OkF P w K mg base 10 "all_names" ["files", "names"] C_all_names := by
  unfold C_all_names
  have ok_names_in_ := (ok_names_in Fx : OkF P w K mg base 9 "names_in" ["rows"] _).mono (show 9 ≤ 9 by omega)
  have hN := sc_all_names.nd
  refine ok_def (k := 9) (N := N_all_names) (ps := ["files", "names"]) (st := st_all_names) (x := "all_names") (B := B_all_names) Fx.d_all_names sc_all_names fun f cdv A outer s H E hr hx hp tk => ?_
  exact (ass_cons (as_set 2 hN (ae_callTy call_listA Fx.n_list bt_list (aa_cons (ae_var 1) aa_nil)))
    (ass_cons (as_for hp rfl (ai_val (ae_var 0)) (ag_nm 3 hN) (ass_one (as_expr (ae_m PySem.F.plainAttrs_list PySem.F.slot_list_extend PySem.F.type_list_extend mt_extendA (ae_var 2) (aa_cons (ae_callO (ok_names_in_) hr hx (aa_cons (ae_var 3) aa_nil) (len_cons len_nil)) aa_nil)))))
    (ass_cons (as_if (at_cmp op_gtA (ae_lenSet rfl Fx.n_len Fx.n_set (ae_var 2) bt_len bt_set) (ae_cst Fx.c_MOST_ASKED)) (ass_one as_never) ass_nil)
    (ass_one (as_ret (ae_callTy call_tupleA Fx.n_tuple bt_tuple (aa_cons (ae_sortSet rfl Fx.n_sorted Fx.n_set (ae_var 2) bt_sorted bt_set) aa_nil)))))))
theorem ok_all_cases (Fx : Facts K mg) : OkF P w K mg base 1 "all_cases" ["names"] C_all_cases := by
  unfold C_all_cases
  have hN := sc_all_cases.nd
  refine ok_def (k := 0) (N := N_all_cases) (ps := ["names"]) (st := st_all_cases) (x := "all_cases") (B := B_all_cases) Fx.d_all_cases sc_all_cases fun f cdv A outer s H E hr hx hp tk => ?_
  exact (ass_cons (as_set 1 hN (ae_lst (aa_cons (ae_tup aa_nil) aa_nil)))
    (ass_cons (as_for hp rfl (ai_val (ae_var 0)) (ag_nm 2 hN) (ass_one (as_setLc2 1 [("case", 3), ("state", 4)] [4] rfl hN (sw_true rfl rfl rfl rfl) (ai_val (ae_var 1)) (by exact blk_ok (N := N_all_cases) (sc := defScope st_all_cases) rfl (by decide +kernel) (by decide +kernel) (by decide +kernel) (by decide +kernel)) (by decide) (by decide) (by decide) (fun _ _ _ _ _ => (ag_nm 3 hN)) (fun _ _ _ _ _ => ats_nil) (fun _ _ _ _ _ => (ai_val (ae_tup (aa_cons (ae_cst Fx.c_UNSET) (aa_cons (ae_cst Fx.c_EMPTY) (aa_cons (ae_cst Fx.c_FULL) aa_nil)))))) (fun _ _ _ _ _ => (ag_nm 4 hN)) (fun _ _ _ _ _ => ats_nil) (fun _ _ _ _ _ => (ae_op op_addA (ae_var 3) (ae_tup (aa_cons (ae_tup (aa_cons (ae_var 2) (aa_cons (ae_var 4) aa_nil))) aa_nil)))))))
    (ass_one (as_ret (ae_var 1)))))
theorem ok_begun (Fx : Facts K mg) : OkF P w K mg base 1 "begun" ["case"] C_begun := by
  unfold C_begun
  have hN := sc_begun.nd
  refine ok_def (k := 0) (N := N_begun) (ps := ["case"]) (st := st_begun) (x := "begun") (B := B_begun) Fx.d_begun sc_begun fun f cdv A outer s H E hr hx hp tk => ?_
  exact (ass_one (as_ret (ae_dc [("name", 1), ("state", 2)] rfl hN (ai_val (ae_var 0)) (by exact blk_ok (N := N_begun) (sc := defScope st_begun) rfl (by decide +kernel) (by decide +kernel) (by decide +kernel) (by decide +kernel)) (by decide) (fun _ _ _ _ _ => (ag_tp (is := [1, 2]) rfl (pgs_cons (pg_name (i := 1) hN rfl (by first | exact .inl rfl | exact .inr rfl) (by first | exact .inl rfl | exact .inr rfl)) (pgs_cons (pg_name (i := 2) hN rfl (by first | exact .inl rfl | exact .inr rfl) (by first | exact .inl rfl | exact .inr rfl)) pgs_nil)))) (fun _ _ _ _ _ => (ats_one (at_cmp (op_neA hr.rm.units) (ae_var 2) (ae_cst Fx.c_UNSET)))) (fun _ _ _ _ _ => (ae_var 1)) (fun _ _ _ _ _ => (ae_if (at_cmp (op_eqA hr.rm.units) (ae_var 2) (ae_cst Fx.c_EMPTY)) (ae_tup aa_nil) (ae_tup (aa_cons (ae_tup (aa_cons (ae_var 1) aa_nil)) aa_nil)))))))
theorem ok_length_of (Fx : Facts K mg) : OkF P w K mg base 1 "length_of" ["word"] C_length_of := by
  unfold C_length_of
  have hN := sc_length_of.nd
  refine ok_def (k := 0) (N := N_length_of) (ps := ["word"]) (st := st_length_of) (x := "length_of") (B := B_length_of) Fx.d_length_of sc_length_of fun f cdv A outer s H E hr hx hp tk => ?_
  exact (ass_one (as_ret (ae_callB (call_sumA rfl) Fx.n_sum bt_sum (aa_cons (ae_lc [("item", 1)] rfl hN (ai_val (ae_var 0)) (by exact blk_ok (N := N_length_of) (sc := defScope st_length_of) rfl (by decide +kernel) (by decide +kernel) (by decide +kernel) (by decide +kernel)) (by decide) (fun _ _ _ _ _ => (ag_nm 1 hN)) (fun _ _ _ _ _ => ats_nil) (fun _ _ _ _ _ => (ae_callB call_lenA Fx.n_len bt_len (aa_cons (ae_var 1) aa_nil)))) aa_nil))))
theorem ok_put_together (Fx : Facts K mg) : OkF P w K mg base 1 "put_together" ["one", "other"] C_put_together := by
  unfold C_put_together
  have hN := sc_put_together.nd
  refine ok_def (k := 0) (N := N_put_together) (ps := ["one", "other"]) (st := st_put_together) (x := "put_together") (B := B_put_together) Fx.d_put_together sc_put_together fun f cdv A outer s H E hr hx hp tk => ?_
  exact (ass_cons (as_if (AW.at (aw_and (at_cmp op_gtA (ae_callB call_lenA Fx.n_len bt_len (aa_cons (ae_var 0) aa_nil)) ae_int) (aw_and (at_cmp op_gtA (ae_callB call_lenA Fx.n_len bt_len (aa_cons (ae_var 1) aa_nil)) ae_int) (aw_and (at_val (ae_isi isT_str (ae_ix (ae_var 0) (ae_neg ae_int)) Fx.n_isinstance Fx.n_str bt_str)) (aw_and1 (at_val (ae_isi isT_str (ae_ix (ae_var 1) ae_int) Fx.n_isinstance Fx.n_str bt_str))))))) (ass_one (as_ret (ae_op op_addA (ae_op op_addA (ae_sl (ae_var 0) ao_none (ao_some (ae_neg ae_int))) (ae_tup (aa_cons (ae_op op_addA (ae_ix (ae_var 0) (ae_neg ae_int)) (ae_ix (ae_var 1) ae_int)) aa_nil))) (ae_sl (ae_var 1) (ao_some ae_int) ao_none)))) ass_nil)
    (ass_one (as_ret (ae_op op_addA (ae_var 0) (ae_var 1)))))
theorem ok_Runner___init__ (Fx : Facts K mg) : OkC P w K mg base 1 "Runner" A_Runner ["self", "values"] C_Runner___init__ := by
  unfold C_Runner___init__
  have hN := sc_Runner___init__.nd
  refine ok_init (k := 0) (N := N_Runner___init__) (ps := ["self", "values"]) (st := st_Runner___init__) (qual := "Runner.__init__") (B := B_Runner___init__) Fx.d_Runner___init__ sc_Runner___init__ fun f cdv A outer s H E hr hx hp tk => ?_
  exact (ass_cons (as_fld Fx.cl_Runner Fx.na_Runner_values_now (ae_var 0) (ae_var 1))
    (ass_one (as_fld Fx.cl_Runner Fx.na_Runner_spots_seen (ae_var 0) (ae_lst aa_nil))))
theorem okg_Runner_part (Fx : Facts K mg) : ∀ n : Nat, OkM P w K mg base (2 + n) A_Runner "part" ["self", "piece", "spot"] (C_Runner_part n) ∧ OkM P w K mg base (2 + n) A_Runner "worked" ["self", "text", "spot"] (C_Runner_worked n)
  | 0 => ⟨okm_zero Fx.d_Runner_part, okm_zero Fx.d_Runner_worked⟩
  | n + 1 => by
    obtain ⟨ok_Runner_part_, ok_Runner_worked_⟩ := okg_Runner_part Fx n
    have ok_is_hard_ := (ok_is_hard Fx : OkF P w K mg base 1 "is_hard" ["sign"] _).mono (show 1 ≤ 2 + n by omega)
    have ok_kind_of_ := (ok_kind_of Fx : OkF P w K mg base 1 "kind_of" ["sign"] _).mono (show 1 ≤ 2 + n by omega)
    have ok_put_together_ := (ok_put_together Fx : OkF P w K mg base 1 "put_together" ["one", "other"] _).mono (show 1 ≤ 2 + n by omega)
    have ok_length_of_ := (ok_length_of Fx : OkF P w K mg base 1 "length_of" ["word"] _).mono (show 1 ≤ 2 + n by omega)
    refine ⟨?_, ?_⟩
    · have hN := sc_Runner_part.nd
      refine ok_meth (k := 2 + n) (N := N_Runner_part) (ps := ["self", "piece", "spot"]) (st := st_Runner_part) (qual := "Runner.part") (B := B_Runner_part (C_Runner_part n) (C_Runner_worked n)) Fx.d_Runner_part sc_Runner_part fun f cdv A outer s H E hr hx hp tk => ?_
      exact (ass_cons (as_asg (ae_var 1) (ag_tp (is := [8, 9, 10]) rfl (pgs_cons (pg_name (i := 8) hN rfl (by first | exact .inl rfl | exact .inr rfl) (by first | exact .inl rfl | exact .inr rfl)) (pgs_cons (pg_name (i := 9) hN rfl (by first | exact .inl rfl | exact .inr rfl) (by first | exact .inl rfl | exact .inr rfl)) (pgs_cons (pg_name (i := 10) hN rfl (by first | exact .inl rfl | exact .inr rfl) (by first | exact .inl rfl | exact .inr rfl)) pgs_nil)))))
    (ass_cons (as_set 3 hN (ae_rin (hu_of hr.rm) (ae_var 8) (ae_fld Fx.cl_Runner Fx.na_Runner_values_now (ae_var 0))))
    (ass_cons (as_set 4 hN (ae_get2 (hu_of hr.rm) (ae_fld Fx.cl_Runner Fx.na_Runner_values_now (ae_var 0)) (ae_var 8) (ae_tup aa_nil)))
    (ass_cons (as_set 5 hN (ae_or (ae_not (ae_var 3)) (ae_or1 (ae_and (ae_callO (ok_is_hard_) hr hx (aa_cons (ae_var 9) aa_nil) (len_cons len_nil)) (ae_and1 (ae_cmp (op_eqA hr.rm.units) (ae_var 4) (ae_tup aa_nil)))))))
    (ass_cons (as_set 6 hN (ae_callO (ok_kind_of_) hr hx (aa_cons (ae_var 9) aa_nil) (len_cons len_nil)))
    (ass_cons (as_if (AW.at (aw_or (at_cmp (op_eqA hr.rm.units) (ae_var 6) (ae_str [])) (aw_or1 (AW.at (aw_and (at_cmp (op_neA hr.rm.units) (ae_var 6) (ae_str [43])) (aw_and1 (at_not (at_val (ae_var 5))))))))) (ass_one (as_ret (ae_var 4))) ass_nil)
    (ass_cons (as_if (AW.at (aw_and (at_cmp (op_eqA hr.rm.units) (ae_var 6) (ae_str [43])) (aw_and1 (at_val (ae_var 5))))) (ass_one (as_ret (ae_tup aa_nil))) ass_nil)
    (ass_cons (as_expr (ae_m PySem.F.plainAttrs_list PySem.F.slot_list_append PySem.F.type_list_append mt_appendA (ae_fld Fx.cl_Runner Fx.na_Runner_spots_seen (ae_var 0)) (aa_cons (ae_var 2) aa_nil)))
    (ass_cons (as_set 7 hN (ae_meth (ok_Runner_worked_) hr hx (ae_var 0) (aa_cons (ae_var 10) (aa_cons (ae_var 2) aa_nil)) (len_cons (len_cons len_nil))))
    (ass_cons (as_if (at_cmp (op_eqA hr.rm.units) (ae_var 6) (ae_str [63])) (ass_one (as_raise (xc_Stop Fx) hr tk (ae_var 7) (h2 := by omega))) ass_nil)
    (ass_cons (as_if (at_cmp (op_eqA hr.rm.units) (ae_var 6) (ae_str [61])) (ass_one (as_dput (hu_of hr.rm) (ae_fld Fx.cl_Runner Fx.na_Runner_values_now (ae_var 0)) (ae_var 8) (ae_var 7))) ass_nil)
    (ass_one (as_ret (ae_var 7))))))))))))))
    · have hN := sc_Runner_worked.nd
      refine ok_meth (k := 2 + n) (N := N_Runner_worked) (ps := ["self", "text", "spot"]) (st := st_Runner_worked) (qual := "Runner.worked") (B := B_Runner_worked (C_Runner_part n) (C_Runner_worked n)) Fx.d_Runner_worked sc_Runner_worked fun f cdv A outer s H E hr hx hp tk => ?_
      exact (ass_cons (as_set 3 hN (ae_tup aa_nil))
    (ass_cons (as_for hp rfl (ai_enum (aa_cons (ae_var 1) aa_nil) Fx.n_enumerate) (ag_tp (is := [4, 5]) rfl (pgs_cons (pg_name (i := 4) hN rfl (by first | exact .inl rfl | exact .inr rfl) (by first | exact .inl rfl | exact .inr rfl)) (pgs_cons (pg_name (i := 5) hN rfl (by first | exact .inl rfl | exact .inr rfl) (by first | exact .inl rfl | exact .inr rfl)) pgs_nil))) (ass_cons (as_set 6 hN (ae_if (at_val (ae_isi isT_str (ae_var 5) Fx.n_isinstance Fx.n_str bt_str)) (ae_tup (aa_cons (ae_var 5) aa_nil)) (ae_meth (ok_Runner_part_) hr hx (ae_var 0) (aa_cons (ae_var 5) (aa_cons (ae_op op_addA (ae_var 2) (ae_tup (aa_cons (ae_var 4) aa_nil))) aa_nil)) (len_cons (len_cons len_nil)))))
    (ass_one (as_set 3 hN (ae_callO (ok_put_together_) hr hx (aa_cons (ae_var 3) (aa_cons (ae_var 6) aa_nil)) (len_cons (len_cons len_nil)))))))
    (ass_cons (as_if (at_cmp op_gtA (ae_callO (ok_length_of_) hr hx (aa_cons (ae_var 3) aa_nil) (len_cons len_nil)) (ae_cst Fx.c_MOST_LONG)) (ass_one as_never) ass_nil)
    (ass_one (as_ret (ae_var 3))))))
theorem ok_Runner_part (Fx : Facts K mg) (n : Nat) : OkM P w K mg base (2 + n) A_Runner "part" ["self", "piece", "spot"] (C_Runner_part n) := (okg_Runner_part Fx n).1
theorem ok_Runner_worked (Fx : Facts K mg) (n : Nat) : OkM P w K mg base (2 + n) A_Runner "worked" ["self", "text", "spot"] (C_Runner_worked n) := (okg_Runner_part Fx n).2
theorem ok_Runner_done_row (Fx : Facts K mg) : OkM P w K mg base 13 A_Runner "done_row" ["self", "number", "row"] C_Runner_done_row := by
  unfold C_Runner_done_row
  have ok_Runner_worked_ := (ok_Runner_worked Fx 10 : OkM P w K mg base 12 A_Runner "worked" ["self", "text", "spot"] _).mono (show 12 ≤ 12 by omega)
  have hN := sc_Runner_done_row.nd
  refine ok_meth (k := 12) (N := N_Runner_done_row) (ps := ["self", "number", "row"]) (st := st_Runner_done_row) (qual := "Runner.done_row") (B := B_Runner_done_row) Fx.d_Runner_done_row sc_Runner_done_row fun f cdv A outer s H E hr hx hp tk => ?_
  exact (ass_one (as_if (at_cmp (op_eqA hr.rm.units) (ae_ix (ae_var 2) ae_int) (ae_cst Fx.c_DROP)) (ass_one (as_expr (ae_pop2 (ae_fld Fx.cl_Runner Fx.na_Runner_values_now (ae_var 0)) (ae_ix (ae_var 2) ae_int) ae_non))) (ass_one (as_if (at_cmp (op_eqA hr.rm.units) (ae_ix (ae_var 2) ae_int) (ae_cst Fx.c_CHECK)) (ass_one (as_expr (ae_meth (ok_Runner_worked_) hr hx (ae_var 0) (aa_cons (ae_ix (ae_var 2) ae_int) (aa_cons (ae_tup (aa_cons (ae_var 1) aa_nil)) aa_nil)) (len_cons (len_cons len_nil))))) (ass_one (as_if (AW.at (aw_or (at_cmp (op_neA hr.rm.units) (ae_ix (ae_var 2) ae_int) (ae_cst Fx.c_GIVE)) (aw_or1 (at_rnotin (hu_of hr.rm) (ae_ix (ae_var 2) ae_int) (ae_fld Fx.cl_Runner Fx.na_Runner_values_now (ae_var 0)))))) (ass_cons (as_set 3 hN (ae_meth (ok_Runner_worked_) hr hx (ae_var 0) (aa_cons (ae_ix (ae_var 2) ae_int) (aa_cons (ae_tup (aa_cons (ae_var 1) aa_nil)) aa_nil)) (len_cons (len_cons len_nil))))
    (ass_one (as_dput (hu_of hr.rm) (ae_fld Fx.cl_Runner Fx.na_Runner_values_now (ae_var 0)) (ae_ix (ae_var 2) ae_int) (ae_var 3)))) ass_nil))))))
theorem ok_Runner_run_rows (Fx : Facts K mg) : OkM P w K mg base 14 A_Runner "run_rows" ["self", "rows"] C_Runner_run_rows := by
  unfold C_Runner_run_rows
  have ok_Runner_done_row_ := (ok_Runner_done_row Fx : OkM P w K mg base 13 A_Runner "done_row" ["self", "number", "row"] _).mono (show 13 ≤ 13 by omega)
  have hN := sc_Runner_run_rows.nd
  refine ok_meth (k := 13) (N := N_Runner_run_rows) (ps := ["self", "rows"]) (st := st_Runner_run_rows) (qual := "Runner.run_rows") (B := B_Runner_run_rows) Fx.d_Runner_run_rows sc_Runner_run_rows fun f cdv A outer s H E hr hx hp tk => ?_
  exact (ass_cons (as_tryR [] (xc_Stop Fx) (by simp) Fx.c_STOPPED hN tk (fun W_ pn_ xe_ tk_ hp_ => (ass_one (as_for hp_ rfl (ai_enum (aa_cons (ae_var 1) aa_nil) Fx.n_enumerate) (ag_tp (is := [3, 4]) rfl (pgs_cons (pg_name (i := 3) hN rfl (by first | exact .inl rfl | exact .inr rfl) (by first | exact .inl rfl | exact .inr rfl)) (pgs_cons (pg_name (i := 4) hN rfl (by first | exact .inl rfl | exact .inr rfl) (by first | exact .inl rfl | exact .inr rfl)) pgs_nil))) (ass_one (as_exprX (ae_meth (ok_Runner_done_row_) hr (psd_of tk_) (ae_var 0) (aa_cons (ae_var 3) (aa_cons (ae_var 4) aa_nil)) (len_cons (len_cons len_nil)))))))))
    (ass_one (as_ret (ae_tup (aa_cons (ae_cst Fx.c_DONE) (aa_cons (ae_dc [("name", 5)] rfl hN (ai_val (ae_callB (call_sortedDA rfl) Fx.n_sorted bt_sorted (aa_cons (ae_fld Fx.cl_Runner Fx.na_Runner_values_now (ae_var 0)) aa_nil))) (by exact blk_ok (N := N_Runner_run_rows) (sc := defScope st_Runner_run_rows) rfl (by decide +kernel) (by decide +kernel) (by decide +kernel) (by decide +kernel)) (by decide) (fun _ _ _ _ _ => (ag_nm 5 hN)) (fun _ _ _ _ _ => ats_nil) (fun _ _ _ _ _ => (ae_var 5)) (fun _ _ _ _ _ => (ae_rget (hu_of hr.rm) (ae_fld Fx.cl_Runner Fx.na_Runner_values_now (ae_var 0)) (ae_var 5)))) aa_nil))))))
theorem ok_outcome_in (Fx : Facts K mg) : OkF P w K mg base 15 "outcome_in" ["rows", "case"] C_outcome_in := by
  unfold C_outcome_in
  have ok_begun_ := (ok_begun Fx : OkF P w K mg base 1 "begun" ["case"] _).mono (show 1 ≤ 14 by omega)
  have ok_Runner___init___ := (ok_Runner___init__ Fx : OkC P w K mg base 1 "Runner" A_Runner ["self", "values"] _).mono (show 1 ≤ 13 by omega)
  have ok_Runner_run_rows_ := (ok_Runner_run_rows Fx : OkM P w K mg base 14 A_Runner "run_rows" ["self", "rows"] _).mono (show 14 ≤ 14 by omega)
  have hN := sc_outcome_in.nd
  refine ok_def (k := 14) (N := N_outcome_in) (ps := ["rows", "case"]) (st := st_outcome_in) (x := "outcome_in") (B := B_outcome_in) Fx.d_outcome_in sc_outcome_in fun f cdv A outer s H E hr hx hp tk => ?_
  exact (ass_one (as_ret (ae_meth (ok_Runner_run_rows_) hr hx (ae_make (ok_Runner___init___) hr hx (aa_cons (ae_callO (ok_begun_) hr hx (aa_cons (ae_var 1) aa_nil) (len_cons len_nil)) aa_nil) (len_cons len_nil)) (aa_cons (ae_var 0) aa_nil) (len_cons len_nil))))
theorem ok_outcomes (Fx : Facts K mg) : OkF P w K mg base 16 "outcomes" ["rows", "names"] C_outcomes := by
  unfold C_outcomes
  have ok_all_cases_ := (ok_all_cases Fx : OkF P w K mg base 1 "all_cases" ["names"] _).mono (show 1 ≤ 15 by omega)
  have ok_outcome_in_ := (ok_outcome_in Fx : OkF P w K mg base 15 "outcome_in" ["rows", "case"] _).mono (show 15 ≤ 15 by omega)
  have hN := sc_outcomes.nd
  refine ok_def (k := 15) (N := N_outcomes) (ps := ["rows", "names"]) (st := st_outcomes) (x := "outcomes") (B := B_outcomes) Fx.d_outcomes sc_outcomes fun f cdv A outer s H E hr hx hp tk => ?_
  exact (ass_one (as_ret (ae_dcN [("case", 2)] (hu12_of hr.rm) rfl hN (ai_val (ae_callO (ok_all_cases_) hr hx (aa_cons (ae_var 1) aa_nil) (len_cons len_nil))) (by exact blk_ok (N := N_outcomes) (sc := defScope st_outcomes) rfl (by decide +kernel) (by decide +kernel) (by decide +kernel) (by decide +kernel)) (by decide) (fun _ _ _ _ _ => (ag_nm 2 hN)) (fun _ _ _ _ _ => ats_nil) (fun _ _ _ _ _ => (ae_var 2)) (fun _ _ _ _ _ => (ae_callO (ok_outcome_in_) hr psd0 (aa_cons (ae_var 0) (aa_cons (ae_var 2) aa_nil)) (len_cons (len_cons len_nil)))))))
theorem ok_environment_of (Fx : Facts K mg) : OkF P w K mg base 1 "environment_of" ["case"] C_environment_of := by
  unfold C_environment_of
  have hN := sc_environment_of.nd
  refine ok_def (k := 0) (N := N_environment_of) (ps := ["case"]) (st := st_environment_of) (x := "environment_of") (B := B_environment_of) Fx.d_environment_of sc_environment_of fun f cdv A outer s H E hr hx hp tk => ?_
  exact (ass_one (as_ret (ae_dc [("name", 1), ("state", 2)] rfl hN (ai_val (ae_var 0)) (by exact blk_ok (N := N_environment_of) (sc := defScope st_environment_of) rfl (by decide +kernel) (by decide +kernel) (by decide +kernel) (by decide +kernel)) (by decide) (fun _ _ _ _ _ => (ag_tp (is := [1, 2]) rfl (pgs_cons (pg_name (i := 1) hN rfl (by first | exact .inl rfl | exact .inr rfl) (by first | exact .inl rfl | exact .inr rfl)) (pgs_cons (pg_name (i := 2) hN rfl (by first | exact .inl rfl | exact .inr rfl) (by first | exact .inl rfl | exact .inr rfl)) pgs_nil)))) (fun _ _ _ _ _ => (ats_one (at_cmp (op_neA hr.rm.units) (ae_var 2) (ae_cst Fx.c_UNSET)))) (fun _ _ _ _ _ => (ae_var 1)) (fun _ _ _ _ _ => (ae_if (at_cmp (op_eqA hr.rm.units) (ae_var 2) (ae_cst Fx.c_EMPTY)) (ae_str []) (ae_cst Fx.c_ONE_SIGN))))))
theorem ok_need_name (Fx : Facts K mg) : OkF P w K mg base 2 "need_name" ["thing"] C_need_name := by
  unfold C_need_name
  have ok_is_name_ := (ok_is_name Fx : OkF P w K mg base 1 "is_name" ["thing"] _).mono (show 1 ≤ 1 by omega)
  have hN := sc_need_name.nd
  refine ok_def (k := 1) (N := N_need_name) (ps := ["thing"]) (st := st_need_name) (x := "need_name") (B := B_need_name) Fx.d_need_name sc_need_name fun f cdv A outer s H E hr hx hp tk => ?_
  exact (ass_cons (as_if (at_not (at_val (ae_callO (ok_is_name_) hr hx (aa_cons (ae_var 0) aa_nil) (len_cons len_nil)))) (ass_one as_never) ass_nil)
    (ass_one (as_ret (ae_var 0))))
theorem ok_done_ends (Fx : Facts K mg) : OkF P w K mg base 17 "done_ends" ["file", "names"] C_done_ends := by
  unfold C_done_ends
  have ok_outcomes_ := (ok_outcomes Fx : OkF P w K mg base 16 "outcomes" ["rows", "names"] _).mono (show 16 ≤ 16 by omega)
  have hN := sc_done_ends.nd
  refine ok_def (k := 16) (N := N_done_ends) (ps := ["file", "names"]) (st := st_done_ends) (x := "done_ends") (B := B_done_ends) Fx.d_done_ends sc_done_ends fun f cdv A outer s H E hr hx hp tk => ?_
  exact (ass_cons (as_set 2 hN (ae_callO (ok_outcomes_) hr hx (aa_cons (ae_var 0) (aa_cons (ae_var 1) aa_nil)) (len_cons (len_cons len_nil))))
    (ass_one (as_ret (ae_lock 2 (ae_lc [("case", 3)] rfl hN (ai_keysT (ae_var 2)) (by exact blk_ok (N := N_done_ends) (sc := defScope st_done_ends) rfl (by decide +kernel) (by decide +kernel) (by decide +kernel) (by decide +kernel)) (by decide) (fun _ _ _ _ _ => (ag_nm 3 hN)) (fun _ _ _ _ _ => (ats_one (at_cmp (op_eqA hr.rm.units) (ae_ix (ae_tget (hu12_of hr.rm) (ae_var 2) (ae_var 3)) ae_int) (ae_cst Fx.c_DONE)))) (fun _ _ _ _ _ => (ae_tup (aa_cons (ae_var 3) (aa_cons (ae_ix (ae_tget (hu12_of hr.rm) (ae_var 2) (ae_var 3)) ae_int) aa_nil)))))))))
theorem ok_is_plain_word (Fx : Facts K mg) : OkF P w K mg base 1 "is_plain_word" ["word"] C_is_plain_word := by
  unfold C_is_plain_word
  have hN := sc_is_plain_word.nd
  refine ok_def (k := 0) (N := N_is_plain_word) (ps := ["word"]) (st := st_is_plain_word) (x := "is_plain_word") (B := B_is_plain_word) Fx.d_is_plain_word sc_is_plain_word fun f cdv A outer s H E hr hx hp tk => ?_
  exact (ass_one (as_ret (ae_callB (call_allA rfl) Fx.n_all bt_all (aa_cons (ae_lc [("item", 1)] rfl hN (ai_val (ae_var 0)) (by exact blk_ok (N := N_is_plain_word) (sc := defScope st_is_plain_word) rfl (by decide +kernel) (by decide +kernel) (by decide +kernel) (by decide +kernel)) (by decide) (fun _ _ _ _ _ => (ag_nm 1 hN)) (fun _ _ _ _ _ => ats_nil) (fun _ _ _ _ _ => (ae_isi isT_str (ae_var 1) Fx.n_isinstance Fx.n_str bt_str))) aa_nil))))
theorem ok_is_fixed (Fx : Facts K mg) : OkF P w K mg base 2 "is_fixed" ["ends", "name"] C_is_fixed := by
  unfold C_is_fixed
  have ok_is_plain_word_ := (ok_is_plain_word Fx : OkF P w K mg base 1 "is_plain_word" ["word"] _).mono (show 1 ≤ 1 by omega)
  have hN := sc_is_fixed.nd
  refine ok_def (k := 1) (N := N_is_fixed) (ps := ["ends", "name"]) (st := st_is_fixed) (x := "is_fixed") (B := B_is_fixed) Fx.d_is_fixed sc_is_fixed fun f cdv A outer s H E hr hx hp tk => ?_
  exact (ass_cons (as_set 2 hN (ae_lc [("case", 3), ("words_now", 4)] rfl hN (ai_val (ae_var 0)) (by exact blk_ok (N := N_is_fixed) (sc := defScope st_is_fixed) rfl (by decide +kernel) (by decide +kernel) (by decide +kernel) (by decide +kernel)) (by decide) (fun _ _ _ _ _ => (ag_tp (is := [3, 4]) rfl (pgs_cons (pg_name (i := 3) hN rfl (by first | exact .inl rfl | exact .inr rfl) (by first | exact .inl rfl | exact .inr rfl)) (pgs_cons (pg_name (i := 4) hN rfl (by first | exact .inl rfl | exact .inr rfl) (by first | exact .inl rfl | exact .inr rfl)) pgs_nil)))) (fun _ _ _ _ _ => ats_nil) (fun _ _ _ _ _ => (ae_get1 (hu_of hr.rm) (ae_var 4) (ae_var 1)))))
    (ass_cons (as_if (AW.at (aw_or (at_cmp (op_eqA hr.rm.units) (ae_var 2) (ae_lst aa_nil)) (aw_or1 (AW.at (aw_and (at_cmp op_isNotA (ae_ix (ae_var 2) ae_int) ae_non) (aw_and1 (at_not (at_val (ae_callO (ok_is_plain_word_) hr hx (aa_cons (ae_ix (ae_var 2) ae_int) aa_nil) (len_cons len_nil)))))))))) (ass_one (as_ret ae_bl)) ass_nil)
    (ass_one (as_ret (ae_callB (call_allA rfl) Fx.n_all bt_all (aa_cons (ae_lc [("word", 5)] rfl hN (ai_val (ae_var 2)) (by exact blk_ok (N := N_is_fixed) (sc := defScope st_is_fixed) rfl (by decide +kernel) (by decide +kernel) (by decide +kernel) (by decide +kernel)) (by decide) (fun _ _ _ _ _ => (ag_nm 5 hN)) (fun _ _ _ _ _ => ats_nil) (fun _ _ _ _ _ => (ae_cmp (op_eqA hr.rm.units) (ae_var 5) (ae_ix (ae_var 2) ae_int)))) aa_nil))))))
theorem ok_fixed (Fx : Facts K mg) : OkF P w K mg base 18 "fixed" ["file"] C_fixed := by
  unfold C_fixed
  have ok_need_file_ := (ok_need_file Fx : OkF P w K mg base 12 "need_file" ["thing"] _).mono (show 12 ≤ 17 by omega)
  have ok_all_names_ := (ok_all_names Fx : OkF P w K mg base 10 "all_names" ["files", "names"] _).mono (show 10 ≤ 17 by omega)
  have ok_done_ends_ := (ok_done_ends Fx : OkF P w K mg base 17 "done_ends" ["file", "names"] _).mono (show 17 ≤ 17 by omega)
  have ok_is_fixed_ := (ok_is_fixed Fx : OkF P w K mg base 2 "is_fixed" ["ends", "name"] _).mono (show 2 ≤ 17 by omega)
  have hN := sc_fixed.nd
  refine ok_def (k := 17) (N := N_fixed) (ps := ["file"]) (st := st_fixed) (x := "fixed") (B := B_fixed) Fx.d_fixed sc_fixed fun f cdv A outer s H E hr hx hp tk => ?_
  exact (ass_cons (as_set 1 hN (ae_callO (ok_all_names_) hr hx (aa_cons (ae_lst (aa_cons (ae_callO (ok_need_file_) hr hx (aa_cons (ae_var 0) aa_nil) (len_cons len_nil)) aa_nil)) (aa_cons (ae_tup aa_nil) aa_nil)) (len_cons (len_cons len_nil))))
    (ass_cons (as_set 2 hN (ae_callO (ok_done_ends_) hr hx (aa_cons (ae_var 0) (aa_cons (ae_var 1) aa_nil)) (len_cons (len_cons len_nil))))
    (ass_cons (as_set 3 hN ae_d0)
    (ass_cons (as_for hp rfl (ai_val (ae_var 1)) (ag_nm 4 hN) (ass_one (as_if (at_val (ae_callO (ok_is_fixed_) hr hx (aa_cons (ae_var 2) (aa_cons (ae_var 4) aa_nil)) (len_cons (len_cons len_nil)))) (ass_cons (as_set 5 hN (ae_get1 (hu_of hr.rm) (ae_ix (ae_ix (ae_var 2) ae_int) ae_int) (ae_var 4)))
    (ass_one (as_dput (hu_of hr.rm) (ae_var 3) (ae_var 4) (ae_if (at_cmp op_isA (ae_var 5) ae_non) ae_non (ae_m PySem.F.plainAttrs_str PySem.F.slot_str_join PySem.F.type_str_join mt_joinT (ae_str []) (aa_cons (ae_var 5) aa_nil)))))) ass_nil)))
    (ass_one (as_ret (ae_var 3)))))))
theorem ok_longer (Fx : Facts K mg) : OkF P w K mg base 1 "longer" ["case"] C_longer := by
  unfold C_longer
  have hN := sc_longer.nd
  refine ok_def (k := 0) (N := N_longer) (ps := ["case"]) (st := st_longer) (x := "longer") (B := B_longer) Fx.d_longer sc_longer fun f cdv A outer s H E hr hx hp tk => ?_
  exact (ass_one (as_ret (ae_dc [("name", 1), ("state", 2)] rfl hN (ai_val (ae_var 0)) (by exact blk_ok (N := N_longer) (sc := defScope st_longer) rfl (by decide +kernel) (by decide +kernel) (by decide +kernel) (by decide +kernel)) (by decide) (fun _ _ _ _ _ => (ag_tp (is := [1, 2]) rfl (pgs_cons (pg_name (i := 1) hN rfl (by first | exact .inl rfl | exact .inr rfl) (by first | exact .inl rfl | exact .inr rfl)) (pgs_cons (pg_name (i := 2) hN rfl (by first | exact .inl rfl | exact .inr rfl) (by first | exact .inl rfl | exact .inr rfl)) pgs_nil)))) (fun _ _ _ _ _ => (ats_one (at_cmp (op_neA hr.rm.units) (ae_var 2) (ae_cst Fx.c_UNSET)))) (fun _ _ _ _ _ => (ae_var 1)) (fun _ _ _ _ _ => (ae_if (at_cmp (op_eqA hr.rm.units) (ae_var 2) (ae_cst Fx.c_EMPTY)) (ae_str []) (ae_str [97, 97]))))))
theorem ok_unfixed (Fx : Facts K mg) : OkF P w K mg base 18 "unfixed" ["file", "name"] C_unfixed := by
  unfold C_unfixed
  have ok_need_file_ := (ok_need_file Fx : OkF P w K mg base 12 "need_file" ["thing"] _).mono (show 12 ≤ 17 by omega)
  have ok_need_name_ := (ok_need_name Fx : OkF P w K mg base 2 "need_name" ["thing"] _).mono (show 2 ≤ 17 by omega)
  have ok_all_names_ := (ok_all_names Fx : OkF P w K mg base 10 "all_names" ["files", "names"] _).mono (show 10 ≤ 17 by omega)
  have ok_done_ends_ := (ok_done_ends Fx : OkF P w K mg base 17 "done_ends" ["file", "names"] _).mono (show 17 ≤ 17 by omega)
  have ok_is_plain_word_ := (ok_is_plain_word Fx : OkF P w K mg base 1 "is_plain_word" ["word"] _).mono (show 1 ≤ 17 by omega)
  have ok_longer_ := (ok_longer Fx : OkF P w K mg base 1 "longer" ["case"] _).mono (show 1 ≤ 17 by omega)
  have ok_environment_of_ := (ok_environment_of Fx : OkF P w K mg base 1 "environment_of" ["case"] _).mono (show 1 ≤ 17 by omega)
  have hN := sc_unfixed.nd
  refine ok_def (k := 17) (N := N_unfixed) (ps := ["file", "name"]) (st := st_unfixed) (x := "unfixed") (B := B_unfixed) Fx.d_unfixed sc_unfixed fun f cdv A outer s H E hr hx hp tk => ?_
  exact (ass_cons (as_expr (ae_callO (ok_need_file_) hr hx (aa_cons (ae_var 0) aa_nil) (len_cons len_nil)))
    (ass_cons (as_set 2 hN (ae_callO (ok_all_names_) hr hx (aa_cons (ae_lst (aa_cons (ae_var 0) aa_nil)) (aa_cons (ae_lst (aa_cons (ae_callO (ok_need_name_) hr hx (aa_cons (ae_var 1) aa_nil) (len_cons len_nil)) aa_nil)) aa_nil)) (len_cons (len_cons len_nil))))
    (ass_cons (as_set 3 hN (ae_callO (ok_done_ends_) hr hx (aa_cons (ae_var 0) (aa_cons (ae_var 2) aa_nil)) (len_cons (len_cons len_nil))))
    (ass_cons (as_for hp rfl (ai_val (ae_var 3)) (ag_tp (is := [4, 5]) rfl (pgs_cons (pg_name (i := 4) hN rfl (by first | exact .inl rfl | exact .inr rfl) (by first | exact .inl rfl | exact .inr rfl)) (pgs_cons (pg_name (i := 5) hN rfl (by first | exact .inl rfl | exact .inr rfl) (by first | exact .inl rfl | exact .inr rfl)) pgs_nil))) (ass_cons (as_set 6 hN (ae_get1 (hu_of hr.rm) (ae_var 5) (ae_var 1)))
    (ass_cons (as_if (AW.at (aw_and (at_cmp op_isNotA (ae_var 6) ae_non) (aw_and1 (at_not (at_val (ae_callO (ok_is_plain_word_) hr hx (aa_cons (ae_var 6) aa_nil) (len_cons len_nil))))))) (ass_one (as_ret (ae_tup (aa_cons (ae_callO (ok_environment_of_) hr hx (aa_cons (ae_var 4) aa_nil) (len_cons len_nil)) (aa_cons (ae_callO (ok_longer_) hr hx (aa_cons (ae_var 4) aa_nil) (len_cons len_nil)) aa_nil))))) ass_nil)
    (ass_one (as_if (at_cmp (op_neA hr.rm.units) (ae_var 6) (ae_get1 (hu_of hr.rm) (ae_ix (ae_ix (ae_var 3) ae_int) ae_int) (ae_var 1))) (ass_one (as_ret (ae_tup (aa_cons (ae_callO (ok_environment_of_) hr hx (aa_cons (ae_ix (ae_ix (ae_var 3) ae_int) ae_int) aa_nil) (len_cons len_nil)) (aa_cons (ae_callO (ok_environment_of_) hr hx (aa_cons (ae_var 4) aa_nil) (len_cons len_nil)) aa_nil))))) ass_nil)))))
    (ass_one (as_ret ae_non))))))
theorem ok_breaking_case (Fx : Facts K mg) : OkF P w K mg base 18 "breaking_case" ["file", "name"] C_breaking_case := by
  unfold C_breaking_case
  have ok_need_file_ := (ok_need_file Fx : OkF P w K mg base 12 "need_file" ["thing"] _).mono (show 12 ≤ 17 by omega)
  have ok_need_name_ := (ok_need_name Fx : OkF P w K mg base 2 "need_name" ["thing"] _).mono (show 2 ≤ 17 by omega)
  have ok_all_names_ := (ok_all_names Fx : OkF P w K mg base 10 "all_names" ["files", "names"] _).mono (show 10 ≤ 17 by omega)
  have ok_done_ends_ := (ok_done_ends Fx : OkF P w K mg base 17 "done_ends" ["file", "names"] _).mono (show 17 ≤ 17 by omega)
  have hN := sc_breaking_case.nd
  refine ok_def (k := 17) (N := N_breaking_case) (ps := ["file", "name"]) (st := st_breaking_case) (x := "breaking_case") (B := B_breaking_case) Fx.d_breaking_case sc_breaking_case fun f cdv A outer s H E hr hx hp tk => ?_
  exact (ass_cons (as_expr (ae_callO (ok_need_file_) hr hx (aa_cons (ae_var 0) aa_nil) (len_cons len_nil)))
    (ass_cons (as_set 2 hN (ae_callO (ok_all_names_) hr hx (aa_cons (ae_lst (aa_cons (ae_var 0) aa_nil)) (aa_cons (ae_lst (aa_cons (ae_callO (ok_need_name_) hr hx (aa_cons (ae_var 1) aa_nil) (len_cons len_nil)) aa_nil)) aa_nil)) (len_cons (len_cons len_nil))))
    (ass_cons (as_for hp rfl (ai_val (ae_callO (ok_done_ends_) hr hx (aa_cons (ae_var 0) (aa_cons (ae_var 2) aa_nil)) (len_cons (len_cons len_nil)))) (ag_tp (is := [3, 4]) rfl (pgs_cons (pg_name (i := 3) hN rfl (by first | exact .inl rfl | exact .inr rfl) (by first | exact .inl rfl | exact .inr rfl)) (pgs_cons (pg_name (i := 4) hN rfl (by first | exact .inl rfl | exact .inr rfl) (by first | exact .inl rfl | exact .inr rfl)) pgs_nil))) (ass_one (as_if (at_cmp (op_eqA hr.rm.units) (ae_get2 (hu_of hr.rm) (ae_var 4) (ae_var 1) (ae_tup aa_nil)) (ae_tup aa_nil)) (ass_one (as_ret (ae_var 3))) ass_nil)))
    (ass_one (as_ret ae_non)))))
theorem ok_lasts (Fx : Facts K mg) : OkF P w K mg base 19 "lasts" ["file", "name"] C_lasts := by
  unfold C_lasts
  have ok_breaking_case_ := (ok_breaking_case Fx : OkF P w K mg base 18 "breaking_case" ["file", "name"] _).mono (show 18 ≤ 18 by omega)
  have hN := sc_lasts.nd
  refine ok_def (k := 18) (N := N_lasts) (ps := ["file", "name"]) (st := st_lasts) (x := "lasts") (B := B_lasts) Fx.d_lasts sc_lasts fun f cdv A outer s H E hr hx hp tk => ?_
  exact (ass_one (as_ret (ae_cmp op_isA (ae_callO (ok_breaking_case_) hr hx (aa_cons (ae_var 0) (aa_cons (ae_var 1) aa_nil)) (len_cons (len_cons len_nil))) ae_non)))
theorem ok_breaker (Fx : Facts K mg) : OkF P w K mg base 19 "breaker" ["file", "name"] C_breaker := by
  unfold C_breaker
  have ok_breaking_case_ := (ok_breaking_case Fx : OkF P w K mg base 18 "breaking_case" ["file", "name"] _).mono (show 18 ≤ 18 by omega)
  have ok_environment_of_ := (ok_environment_of Fx : OkF P w K mg base 1 "environment_of" ["case"] _).mono (show 1 ≤ 18 by omega)
  have hN := sc_breaker.nd
  refine ok_def (k := 18) (N := N_breaker) (ps := ["file", "name"]) (st := st_breaker) (x := "breaker") (B := B_breaker) Fx.d_breaker sc_breaker fun f cdv A outer s H E hr hx hp tk => ?_
  exact (ass_cons (as_set 2 hN (ae_callO (ok_breaking_case_) hr hx (aa_cons (ae_var 0) (aa_cons (ae_var 1) aa_nil)) (len_cons (len_cons len_nil))))
    (ass_cons (as_if (at_cmp op_isA (ae_var 2) ae_non) (ass_one (as_ret ae_non)) ass_nil)
    (ass_one (as_ret (ae_tup (aa_cons (ae_tup (aa_cons (ae_tup (aa_cons (ae_cst Fx.c_CHECK) (aa_cons (ae_tup (aa_cons (ae_tup (aa_cons (ae_var 1) (aa_cons (ae_str [58, 61]) (aa_cons (ae_tup (aa_cons (ae_cst Fx.c_BREAKING) aa_nil)) aa_nil)))) aa_nil)) aa_nil))) aa_nil)) (aa_cons (ae_callO (ok_environment_of_) hr hx (aa_cons (ae_var 2) aa_nil) (len_cons len_nil)) aa_nil)))))))
theorem ok__law_mixed (Fx : Facts K mg) : OkF P w K mg base 1 "_law_mixed" ["cell", "k"] C__law_mixed := by
  unfold C__law_mixed
  have hN := sc__law_mixed.nd
  refine ok_def (k := 0) (N := N__law_mixed) (ps := ["cell", "k"]) (st := st__law_mixed) (x := "_law_mixed") (B := B__law_mixed) Fx.d__law_mixed sc__law_mixed fun f cdv A outer s H E hr hx hp tk => ?_
  exact (ass_cons (as_set 0 hN (ae_op op_modA (ae_callTy call_intA Fx.n_int bt_int (aa_cons (ae_var 0) aa_nil)) ae_int))
    (ass_one (as_ret (ae_op op_modA (ae_op op_mulA (ae_op op_modA (ae_op op_addA (ae_op op_addA (ae_op op_mulA (ae_var 0) (ae_op op_addA ae_int (ae_op op_mulA (ae_op op_mulA ae_int (ae_var 1)) (ae_var 1)))) (ae_op op_mulA ae_int (ae_var 1))) ae_int) ae_int) ae_int) ae_int))))
theorem ok__law_begin (Fx : Facts K mg) : OkF P w K mg base 1 "_law_begin" ["script"] C__law_begin := by
  unfold C__law_begin
  have hN := sc__law_begin.nd
  refine ok_def (k := 0) (N := N__law_begin) (ps := ["script"]) (st := st__law_begin) (x := "_law_begin") (B := B__law_begin) Fx.d__law_begin sc__law_begin fun f cdv A outer s H E hr hx hp tk => ?_
  exact (ass_cons (as_set 1 hN (ae_if (at_cmp (op_neA hr.rm.units) (ae_var 0) (ae_lst aa_nil)) (ae_callTy call_listA Fx.n_list bt_list (aa_cons (ae_var 0) aa_nil)) (ae_lst (aa_cons ae_int aa_nil))))
    (ass_one (as_ret (ae_disp (aq_cons (ae_str [99, 101, 108, 108, 115]) (ae_var 1) (aq_cons (ae_str [108, 101, 102, 116, 115]) (ae_lc [("cell", 2)] rfl hN (ai_val (ae_var 1)) (by exact blk_ok (N := N__law_begin) (sc := defScope st__law_begin) rfl (by decide +kernel) (by decide +kernel) (by decide +kernel) (by decide +kernel)) (by decide) (fun _ _ _ _ _ => (ag_nm 2 hN)) (fun _ _ _ _ _ => ats_nil) (fun _ _ _ _ _ => (ae_if (at_cmp op_geA (ae_var 2) (ae_op op_powA ae_int ae_int)) (ae_var 2) ae_int))) (aq_cons (ae_str [97, 116]) ae_int (aq_cons (ae_str [114, 111, 111, 109]) ae_int aq_nil))))))))
theorem ok__law_draw (Fx : Facts K mg) : OkF P w K mg base 2 "_law_draw" ["state", "many"] C__law_draw := by
  unfold C__law_draw
  have ok__law_mixed_ := (ok__law_mixed Fx : OkF P w K mg base 1 "_law_mixed" ["cell", "k"] _).mono (show 1 ≤ 1 by omega)
  have hN := sc__law_draw.nd
  refine ok_def (k := 1) (N := N__law_draw) (ps := ["state", "many"]) (st := st__law_draw) (x := "_law_draw") (B := B__law_draw) Fx.d__law_draw sc__law_draw fun f cdv A outer s H E hr hx hp tk => ?_
  exact (ass_cons (as_set 2 hN (ae_rget (hu_of hr.rm) (ae_var 0) (ae_str [97, 116])))
    (ass_cons (as_dput (hu_of hr.rm) (ae_var 0) (ae_str [97, 116]) (ae_op op_addA (ae_var 2) ae_int))
    (ass_cons (as_set 3 hN (ae_op op_modA (ae_callTy call_intA Fx.n_int bt_int (aa_cons (ae_var 2) aa_nil)) (ae_callB call_lenA Fx.n_len bt_len (aa_cons (ae_rget (hu_of hr.rm) (ae_var 0) (ae_str [99, 101, 108, 108, 115])) aa_nil))))
    (ass_cons (as_set 4 hN (ae_ix (ae_rget (hu_of hr.rm) (ae_var 0) (ae_str [108, 101, 102, 116, 115])) (ae_var 3)))
    (ass_cons (as_if (at_cmp op_gtA (ae_var 4) ae_int) (ass_cons (as_lput (ae_rget (hu_of hr.rm) (ae_var 0) (ae_str [108, 101, 102, 116, 115])) (ae_var 3) (ae_op op_fdivA (ae_var 4) (ae_var 1)))
    (ass_one (as_ret (ae_op op_modA (ae_callTy call_intA Fx.n_int bt_int (aa_cons (ae_var 4) aa_nil)) (ae_var 1))))) ass_nil)
    (ass_cons (as_set 5 hN (ae_callO (ok__law_mixed_) hr hx (aa_cons (ae_callO (ok__law_mixed_) hr hx (aa_cons (ae_ix (ae_rget (hu_of hr.rm) (ae_var 0) (ae_str [99, 101, 108, 108, 115])) (ae_var 3)) (aa_cons (ae_var 2) aa_nil)) (len_cons (len_cons len_nil))) (aa_cons (ae_op op_addA ae_int (ae_var 2)) aa_nil)) (len_cons (len_cons len_nil))))
    (ass_one (as_ret (ae_op op_modA (ae_op op_fdivA (ae_callTy call_intA Fx.n_int bt_int (aa_cons (ae_op op_addA (ae_op op_mulA (ae_var 5) ae_int) (ae_callO (ok__law_mixed_) hr hx (aa_cons (ae_var 5) (aa_cons (ae_op op_addA ae_int (ae_var 2)) aa_nil)) (len_cons (len_cons len_nil)))) aa_nil)) ae_int) (ae_var 1))))))))))
theorem okg__law_worked (Fx : Facts K mg) : ∀ n : Nat, OkF P w K mg base (0 + n) "_law_worked" ["env", "text", "seen"] (C__law_worked n)
  | 0 => ok_zero Fx.d__law_worked
  | n + 1 => by
    have ok__law_worked_ := okg__law_worked Fx n
    refine ?_
    · have hN := sc__law_worked.nd
      refine ok_def (k := 0 + n) (N := N__law_worked) (ps := ["env", "text", "seen"]) (st := st__law_worked) (x := "_law_worked") (B := B__law_worked (C__law_worked n)) Fx.d__law_worked sc__law_worked fun f cdv A outer s H E hr hx hp tk => ?_
      exact (ass_cons (as_set 3 hN (ae_str []))
    (ass_cons (as_for hp rfl (ai_val (ae_var 1)) (ag_nm 4 hN) (ass_cons (as_if (at_val (ae_isi isT_str (ae_var 4) Fx.n_isinstance Fx.n_str bt_str)) (ass_cons (as_set 3 hN (ae_op op_addA (ae_var 3) (ae_var 4)))
    (ass_one as_continue)) ass_nil)
    (ass_cons (as_asg (ae_var 4) (ag_tp (is := [6, 7, 8]) rfl (pgs_cons (pg_name (i := 6) hN rfl (by first | exact .inl rfl | exact .inr rfl) (by first | exact .inl rfl | exact .inr rfl)) (pgs_cons (pg_name (i := 7) hN rfl (by first | exact .inl rfl | exact .inr rfl) (by first | exact .inl rfl | exact .inr rfl)) (pgs_cons (pg_name (i := 8) hN rfl (by first | exact .inl rfl | exact .inr rfl) (by first | exact .inl rfl | exact .inr rfl)) pgs_nil)))))
    (ass_cons (as_set 5 hN (ae_or (ae_rnotin (hu_of hr.rm) (ae_var 6) (ae_var 0)) (ae_or1 (ae_and (ae_cmp (op_eqA hr.rm.units) (ae_sl (ae_var 7) ao_none (ao_some ae_int)) (ae_str [58])) (ae_and1 (ae_cmp (op_eqA hr.rm.units) (ae_rget (hu_of hr.rm) (ae_var 0) (ae_var 6)) (ae_str [])))))))
    (ass_one (as_if (AW.at (aw_or (at_cmp (op_eqA hr.rm.units) (ae_var 7) (ae_str [])) (aw_or1 (AW.at (aw_and (at_cmp (op_neA hr.rm.units) (ae_sl (ae_var 7) (ao_some (ae_neg ae_int)) ao_none) (ae_str [43])) (aw_and1 (at_not (at_val (ae_var 5))))))))) (ass_one (as_set 3 hN (ae_op op_addA (ae_var 3) (ae_get2 (hu_of hr.rm) (ae_var 0) (ae_var 6) (ae_str []))))) (ass_one (as_if (AW.at (aw_or (at_cmp (op_neA hr.rm.units) (ae_sl (ae_var 7) (ao_some (ae_neg ae_int)) ao_none) (ae_str [43])) (aw_or1 (at_not (at_val (ae_var 5)))))) (ass_cons (as_asg (ae_callO (ok__law_worked_) hr hx (aa_cons (ae_var 0) (aa_cons (ae_var 8) (aa_cons (ae_var 2) aa_nil))) (len_cons (len_cons (len_cons len_nil)))) (ag_tp (is := [9, 10]) rfl (pgs_cons (pg_name (i := 9) hN rfl (by first | exact .inl rfl | exact .inr rfl) (by first | exact .inl rfl | exact .inr rfl)) (pgs_cons (pg_name (i := 10) hN rfl (by first | exact .inl rfl | exact .inr rfl) (by first | exact .inl rfl | exact .inr rfl)) pgs_nil))))
    (ass_cons (as_if (AW.at (aw_or (at_val (ae_var 10)) (aw_or1 (at_cmp (op_eqA hr.rm.units) (ae_sl (ae_var 7) (ao_some (ae_neg ae_int)) ao_none) (ae_str [63]))))) (ass_one (as_ret (ae_tup (aa_cons (ae_var 9) (aa_cons ae_bl aa_nil))))) ass_nil)
    (ass_cons (as_if (at_cmp (op_eqA hr.rm.units) (ae_sl (ae_var 7) (ao_some (ae_neg ae_int)) ao_none) (ae_str [61])) (ass_one (as_dput (hu_of hr.rm) (ae_var 0) (ae_var 6) (ae_var 9))) ass_nil)
    (ass_one (as_set 3 hN (ae_op op_addA (ae_var 3) (ae_var 9))))))) ass_nil))))))))
    (ass_cons (as_expr (ae_m PySem.F.plainAttrs_list PySem.F.slot_list_append PySem.F.type_list_append mt_appendA (ae_var 2) (aa_cons (ae_callB call_lenA Fx.n_len bt_len (aa_cons (ae_var 3) aa_nil)) aa_nil)))
    (ass_one (as_ret (ae_tup (aa_cons (ae_sl (ae_var 3) ao_none (ao_some ae_int)) (aa_cons ae_bl aa_nil))))))))
theorem ok__law_worked (Fx : Facts K mg) (n : Nat) : OkF P w K mg base (0 + n) "_law_worked" ["env", "text", "seen"] (C__law_worked n) := (okg__law_worked Fx n)
theorem ok__law_run_seen (Fx : Facts K mg) : OkF P w K mg base 9 "_law_run_seen" ["env", "rows", "seen"] C__law_run_seen := by
  unfold C__law_run_seen
  have ok__law_worked_ := (ok__law_worked Fx 8 : OkF P w K mg base 8 "_law_worked" ["env", "text", "seen"] _).mono (show 8 ≤ 8 by omega)
  have hN := sc__law_run_seen.nd
  refine ok_def (k := 8) (N := N__law_run_seen) (ps := ["env", "rows", "seen"]) (st := st__law_run_seen) (x := "_law_run_seen") (B := B__law_run_seen) Fx.d__law_run_seen sc__law_run_seen fun f cdv A outer s H E hr hx hp tk => ?_
  exact (ass_cons (as_set 0 hN (ae_callTy call_dictA Fx.n_dict bt_dict (aa_cons (ae_var 0) aa_nil)))
    (ass_cons (as_for hp rfl (ai_val (ae_var 1)) (ag_nm 3 hN) (ass_one (as_if (at_cmp (op_eqA hr.rm.units) (ae_ix (ae_var 3) ae_int) (ae_str [100, 114, 111, 112])) (ass_one (as_expr (ae_pop2 (ae_var 0) (ae_ix (ae_var 3) ae_int) ae_non))) (ass_one (as_if (AW.at (aw_or (at_cmp (op_neA hr.rm.units) (ae_ix (ae_var 3) ae_int) (ae_str [103, 105, 118, 101])) (aw_or1 (at_rnotin (hu_of hr.rm) (ae_ix (ae_var 3) ae_int) (ae_var 0))))) (ass_cons (as_asg (ae_callO (ok__law_worked_) hr hx (aa_cons (ae_var 0) (aa_cons (ae_ix (ae_var 3) (ae_neg ae_int)) (aa_cons (ae_var 2) aa_nil))) (len_cons (len_cons (len_cons len_nil)))) (ag_tp (is := [4, 5]) rfl (pgs_cons (pg_name (i := 4) hN rfl (by first | exact .inl rfl | exact .inr rfl) (by first | exact .inl rfl | exact .inr rfl)) (pgs_cons (pg_name (i := 5) hN rfl (by first | exact .inl rfl | exact .inr rfl) (by first | exact .inl rfl | exact .inr rfl)) pgs_nil))))
    (ass_cons (as_if (at_val (ae_var 5)) (ass_one (as_ret (ae_tup (aa_cons (ae_str [115, 116, 111, 112, 112, 101, 100]) (aa_cons (ae_var 4) aa_nil))))) ass_nil)
    (ass_one (as_if (at_cmp (op_neA hr.rm.units) (ae_ix (ae_var 3) ae_int) (ae_str [99, 104, 101, 99, 107])) (ass_one (as_dput (hu_of hr.rm) (ae_var 0) (ae_ix (ae_var 3) ae_int) (ae_var 4))) ass_nil)))) ass_nil)))))
    (ass_one (as_ret (ae_tup (aa_cons (ae_str [100, 111, 110, 101]) (aa_cons (ae_var 0) aa_nil)))))))
theorem ok__law_run (Fx : Facts K mg) : OkF P w K mg base 10 "_law_run" ["env", "rows"] C__law_run := by
  unfold C__law_run
  have ok__law_run_seen_ := (ok__law_run_seen Fx : OkF P w K mg base 9 "_law_run_seen" ["env", "rows", "seen"] _).mono (show 9 ≤ 9 by omega)
  have hN := sc__law_run.nd
  refine ok_def (k := 9) (N := N__law_run) (ps := ["env", "rows"]) (st := st__law_run) (x := "_law_run") (B := B__law_run) Fx.d__law_run sc__law_run fun f cdv A outer s H E hr hx hp tk => ?_
  exact (ass_one (as_ret (ae_callO (ok__law_run_seen_) hr hx (aa_cons (ae_var 0) (aa_cons (ae_var 1) (aa_cons (ae_lst aa_nil) aa_nil))) (len_cons (len_cons (len_cons len_nil))))))
theorem ok__law_names (Fx : Facts K mg) : OkF P w K mg base 3 "_law_names" ["state", "many"] C__law_names := by
  unfold C__law_names
  have ok__law_draw_ := (ok__law_draw Fx : OkF P w K mg base 2 "_law_draw" ["state", "many"] _).mono (show 2 ≤ 2 by omega)
  have hN := sc__law_names.nd
  refine ok_def (k := 2) (N := N__law_names) (ps := ["state", "many"]) (st := st__law_names) (x := "_law_names") (B := B__law_names) Fx.d__law_names sc__law_names fun f cdv A outer s H E hr hx hp tk => ?_
  exact (ass_cons (as_par (i := 3) (j := 4) rfl hN (aa_cons (ae_lst (aa_cons (ae_str [65]) (aa_cons (ae_str [66]) (aa_cons (ae_str [67]) (aa_cons (ae_str [68, 95]) (aa_cons (ae_str [68, 66]) (aa_cons (ae_str [72, 79, 83, 84]) (aa_cons (ae_str [88]) (aa_cons (ae_str [89]) (aa_cons (ae_str [90, 95, 90]) (aa_cons (ae_str [65, 66, 67, 68, 69, 70, 71, 72]) aa_nil))))))))))) (aa_cons (ae_lst aa_nil) aa_nil)))
    (ass_cons (as_for hp rfl (ai_range (aa_cons (ae_var 1) aa_nil) Fx.n_range) (ag_nm 2 hN) (ass_one (as_expr (ae_m PySem.F.plainAttrs_list PySem.F.slot_list_append PySem.F.type_list_append mt_appendA (ae_var 4) (aa_cons (ae_m PySem.F.plainAttrs_list PySem.F.slot_list_pop PySem.F.type_list_pop mt_popA (ae_var 3) (aa_cons (ae_callO (ok__law_draw_) hr hx (aa_cons (ae_var 0) (aa_cons (ae_callB call_lenA Fx.n_len bt_len (aa_cons (ae_var 3) aa_nil)) aa_nil)) (len_cons (len_cons len_nil))) aa_nil)) aa_nil)))))
    (ass_one (as_ret (ae_callB call_sortedA Fx.n_sorted bt_sorted (aa_cons (ae_var 4) aa_nil))))))
theorem ok__law_rows (Fx : Facts K mg) : OkF P w K mg base 1 "_law_rows" ["a", "b"] C__law_rows := by
  unfold C__law_rows
  have hN := sc__law_rows.nd
  refine ok_def (k := 0) (N := N__law_rows) (ps := ["a", "b"]) (st := st__law_rows) (x := "_law_rows") (B := B__law_rows) Fx.d__law_rows sc__law_rows fun f cdv A outer s H E hr hx hp tk => ?_
  exact (ass_cons (as_set 2 hN (ae_tup (aa_cons (ae_tup (aa_cons (ae_str [100, 114, 111, 112]) (aa_cons (ae_var 0) aa_nil))) (aa_cons (ae_tup (aa_cons (ae_str [99, 104, 101, 99, 107]) (aa_cons (ae_tup (aa_cons (ae_tup (aa_cons (ae_var 0) (aa_cons (ae_str [63]) (aa_cons (ae_tup (aa_cons (ae_str [120]) aa_nil)) aa_nil)))) aa_nil)) aa_nil))) aa_nil))))
    (ass_cons (as_set 3 hN (ae_lst (aa_cons (ae_tup (aa_cons (ae_tup aa_nil) (aa_cons ae_d0 (aa_cons (ae_lst (aa_cons ae_bl (aa_cons ae_bl aa_nil))) aa_nil)))) (aa_cons (ae_tup (aa_cons (ae_tup (aa_cons (ae_tup (aa_cons (ae_str [115, 101, 116]) (aa_cons (ae_var 0) (aa_cons (ae_tup (aa_cons (ae_str [120]) aa_nil)) aa_nil)))) aa_nil)) (aa_cons (ae_disp (aq_cons (ae_var 0) (ae_str [120]) aq_nil)) (aa_cons (ae_lst (aa_cons ae_bl (aa_cons ae_bl aa_nil))) aa_nil)))) aa_nil))))
    (ass_cons (as_set 3 hN (ae_op op_addA (ae_var 3) (ae_lst (aa_cons (ae_tup (aa_cons (ae_tup (aa_cons (ae_tup (aa_cons (ae_str [115, 101, 116]) (aa_cons (ae_var 0) (aa_cons (ae_tup aa_nil) aa_nil)))) aa_nil)) (aa_cons (ae_disp (aq_cons (ae_var 0) (ae_str []) aq_nil)) (aa_cons (ae_lst (aa_cons ae_bl (aa_cons ae_bl aa_nil))) aa_nil)))) (aa_cons (ae_tup (aa_cons (ae_tup (aa_cons (ae_tup (aa_cons (ae_str [100, 114, 111, 112]) (aa_cons (ae_var 0) aa_nil))) aa_nil)) (aa_cons (ae_disp (aq_cons (ae_var 0) ae_non aq_nil)) (aa_cons (ae_lst (aa_cons ae_bl (aa_cons ae_bl aa_nil))) aa_nil)))) aa_nil)))))
    (ass_cons (as_set 3 hN (ae_op op_addA (ae_var 3) (ae_lst (aa_cons (ae_tup (aa_cons (ae_tup (aa_cons (ae_tup (aa_cons (ae_str [103, 105, 118, 101]) (aa_cons (ae_var 0) (aa_cons (ae_tup (aa_cons (ae_str [120]) aa_nil)) aa_nil)))) aa_nil)) (aa_cons ae_d0 (aa_cons (ae_lst (aa_cons ae_bl (aa_cons ae_bl aa_nil))) aa_nil)))) (aa_cons (ae_tup (aa_cons (ae_var 2) (aa_cons ae_d0 (aa_cons (ae_lst (aa_cons ae_bl (aa_cons ae_bl aa_nil))) aa_nil)))) aa_nil)))))
    (ass_cons (as_expr (ae_m PySem.F.plainAttrs_list PySem.F.slot_list_append PySem.F.type_list_append mt_appendA (ae_var 3) (aa_cons (ae_tup (aa_cons (ae_tup (aa_cons (ae_tup (aa_cons (ae_str [115, 101, 116]) (aa_cons (ae_var 0) (aa_cons (ae_tup (aa_cons (ae_tup (aa_cons (ae_var 0) (aa_cons (ae_str [58, 45]) (aa_cons (ae_tup (aa_cons (ae_str [120]) aa_nil)) aa_nil)))) aa_nil)) aa_nil)))) aa_nil)) (aa_cons ae_d0 (aa_cons (ae_lst (aa_cons ae_bl (aa_cons ae_bl aa_nil))) aa_nil)))) aa_nil)))
    (ass_cons (as_expr (ae_m PySem.F.plainAttrs_list PySem.F.slot_list_append PySem.F.type_list_append mt_appendA (ae_var 3) (aa_cons (ae_tup (aa_cons (ae_tup (aa_cons (ae_tup (aa_cons (ae_str [115, 101, 116]) (aa_cons (ae_var 1) (aa_cons (ae_tup (aa_cons (ae_tup (aa_cons (ae_var 0) (aa_cons (ae_str [58, 43]) (aa_cons (ae_tup (aa_cons (ae_str [111, 110]) aa_nil)) aa_nil)))) aa_nil)) aa_nil)))) aa_nil)) (aa_cons ae_d0 (aa_cons (ae_lst (aa_cons ae_bl (aa_cons ae_bl aa_nil))) aa_nil)))) aa_nil)))
    (ass_cons (as_expr (ae_m PySem.F.plainAttrs_list PySem.F.slot_list_append PySem.F.type_list_append mt_appendA (ae_var 3) (aa_cons (ae_tup (aa_cons (ae_tup (aa_cons (ae_tup (aa_cons (ae_str [115, 101, 116]) (aa_cons (ae_var 1) (aa_cons (ae_tup (aa_cons (ae_tup (aa_cons (ae_var 0) (aa_cons (ae_str [58, 43]) (aa_cons (ae_tup (aa_cons (ae_str [111, 110]) aa_nil)) aa_nil)))) aa_nil)) aa_nil)))) (aa_cons (ae_tup (aa_cons (ae_str [115, 101, 116]) (aa_cons (ae_var 1) (aa_cons (ae_tup (aa_cons (ae_tup (aa_cons (ae_var 1) (aa_cons (ae_str [58, 45]) (aa_cons (ae_tup (aa_cons (ae_str [111, 110]) aa_nil)) aa_nil)))) aa_nil)) aa_nil)))) aa_nil))) (aa_cons (ae_disp (aq_cons (ae_var 1) (ae_str [111, 110]) aq_nil)) (aa_cons (ae_lst (aa_cons ae_bl (aa_cons ae_bl aa_nil))) aa_nil)))) aa_nil)))
    (ass_cons (as_expr (ae_m PySem.F.plainAttrs_list PySem.F.slot_list_append PySem.F.type_list_append mt_appendA (ae_var 3) (aa_cons (ae_tup (aa_cons (ae_tup (aa_cons (ae_tup (aa_cons (ae_str [99, 104, 101, 99, 107]) (aa_cons (ae_tup (aa_cons (ae_tup (aa_cons (ae_var 0) (aa_cons (ae_str [63]) (aa_cons (ae_tup (aa_cons (ae_str [110, 111]) aa_nil)) aa_nil)))) aa_nil)) aa_nil))) (aa_cons (ae_tup (aa_cons (ae_str [115, 101, 116]) (aa_cons (ae_var 1) (aa_cons (ae_tup (aa_cons (ae_tup (aa_cons (ae_var 0) (aa_cons (ae_str [43]) (aa_cons (ae_tup (aa_cons (ae_str [121]) aa_nil)) aa_nil)))) aa_nil)) aa_nil)))) aa_nil))) (aa_cons (ae_disp (aq_cons (ae_var 1) (ae_str [121]) aq_nil)) (aa_cons (ae_lst (aa_cons ae_bl (aa_cons ae_bl aa_nil))) aa_nil)))) aa_nil)))
    (ass_cons (as_expr (ae_m PySem.F.plainAttrs_list PySem.F.slot_list_append PySem.F.type_list_append mt_appendA (ae_var 3) (aa_cons (ae_tup (aa_cons (ae_tup (aa_cons (ae_tup (aa_cons (ae_str [99, 104, 101, 99, 107]) (aa_cons (ae_tup (aa_cons (ae_tup (aa_cons (ae_var 0) (aa_cons (ae_str [58, 63]) (aa_cons (ae_tup (aa_cons (ae_str [110, 111]) aa_nil)) aa_nil)))) aa_nil)) aa_nil))) aa_nil)) (aa_cons ae_d0 (aa_cons (ae_lst (aa_cons ae_bl (aa_cons ae_bl aa_nil))) aa_nil)))) aa_nil)))
    (ass_cons (as_expr (ae_m PySem.F.plainAttrs_list PySem.F.slot_list_append PySem.F.type_list_append mt_appendA (ae_var 3) (aa_cons (ae_tup (aa_cons (ae_tup (aa_cons (ae_tup (aa_cons (ae_str [100, 114, 111, 112]) (aa_cons (ae_var 0) aa_nil))) (aa_cons (ae_tup (aa_cons (ae_str [99, 104, 101, 99, 107]) (aa_cons (ae_tup (aa_cons (ae_tup (aa_cons (ae_var 0) (aa_cons (ae_str [61]) (aa_cons (ae_tup (aa_cons (ae_str [122]) aa_nil)) aa_nil)))) aa_nil)) aa_nil))) aa_nil))) (aa_cons (ae_disp (aq_cons (ae_var 0) (ae_str [122]) aq_nil)) (aa_cons (ae_lst (aa_cons ae_bl (aa_cons ae_bl aa_nil))) aa_nil)))) aa_nil)))
    (ass_cons (as_expr (ae_m PySem.F.plainAttrs_list PySem.F.slot_list_append PySem.F.type_list_append mt_appendA (ae_var 3) (aa_cons (ae_tup (aa_cons (ae_tup (aa_cons (ae_tup (aa_cons (ae_str [115, 101, 116]) (aa_cons (ae_var 0) (aa_cons (ae_tup (aa_cons (ae_tup (aa_cons (ae_var 1) (aa_cons (ae_str []) (aa_cons (ae_tup aa_nil) aa_nil)))) aa_nil)) aa_nil)))) (aa_cons (ae_tup (aa_cons (ae_str [100, 114, 111, 112]) (aa_cons (ae_var 1) aa_nil))) aa_nil))) (aa_cons (ae_disp (aq_cons (ae_var 1) ae_non aq_nil)) (aa_cons (ae_lst (aa_cons ae_bl (aa_cons ae_bl aa_nil))) aa_nil)))) aa_nil)))
    (ass_cons (as_expr (ae_m PySem.F.plainAttrs_list PySem.F.slot_list_append PySem.F.type_list_append mt_appendA (ae_var 3) (aa_cons (ae_tup (aa_cons (ae_tup (aa_cons (ae_tup (aa_cons (ae_str [115, 101, 116]) (aa_cons (ae_var 0) (aa_cons (ae_tup (aa_cons (ae_str [120]) (aa_cons (ae_tup (aa_cons (ae_var 1) (aa_cons (ae_str []) (aa_cons (ae_tup aa_nil) aa_nil)))) aa_nil))) aa_nil)))) (aa_cons (ae_tup (aa_cons (ae_str [115, 101, 116]) (aa_cons (ae_var 1) (aa_cons (ae_tup (aa_cons (ae_str [49]) aa_nil)) aa_nil)))) aa_nil))) (aa_cons (ae_disp (aq_cons (ae_var 1) (ae_str [49]) aq_nil)) (aa_cons (ae_lst (aa_cons ae_bl (aa_cons ae_bl aa_nil))) aa_nil)))) aa_nil)))
    (ass_cons (as_expr (ae_m PySem.F.plainAttrs_list PySem.F.slot_list_append PySem.F.type_list_append mt_appendA (ae_var 3) (aa_cons (ae_tup (aa_cons (ae_tup (aa_cons (ae_tup (aa_cons (ae_str [99, 104, 101, 99, 107]) (aa_cons (ae_tup (aa_cons (ae_tup (aa_cons (ae_var 0) (aa_cons (ae_str [43]) (aa_cons (ae_tup (aa_cons (ae_tup (aa_cons (ae_var 1) (aa_cons (ae_str [63]) (aa_cons (ae_tup aa_nil) aa_nil)))) aa_nil)) aa_nil)))) aa_nil)) aa_nil))) (aa_cons (ae_tup (aa_cons (ae_str [100, 114, 111, 112]) (aa_cons (ae_var 0) aa_nil))) aa_nil))) (aa_cons (ae_disp (aq_cons (ae_var 0) ae_non aq_nil)) (aa_cons (ae_lst (aa_cons ae_bl (aa_cons ae_bl aa_nil))) aa_nil)))) aa_nil)))
    (ass_cons (as_set 4 hN (ae_tup (aa_cons (ae_str [99, 104, 101, 99, 107]) (aa_cons (ae_tup (aa_cons (ae_tup (aa_cons (ae_var 0) (aa_cons (ae_str [43]) (aa_cons (ae_tup (aa_cons (ae_tup (aa_cons (ae_var 1) (aa_cons (ae_str [63]) (aa_cons (ae_tup (aa_cons (ae_str [110, 111]) aa_nil)) aa_nil)))) aa_nil)) aa_nil)))) aa_nil)) aa_nil))))
    (ass_cons (as_expr (ae_m PySem.F.plainAttrs_list PySem.F.slot_list_append PySem.F.type_list_append mt_appendA (ae_var 3) (aa_cons (ae_tup (aa_cons (ae_tup (aa_cons (ae_tup (aa_cons (ae_str [100, 114, 111, 112]) (aa_cons (ae_var 1) aa_nil))) (aa_cons (ae_var 4) aa_nil))) (aa_cons (ae_disp (aq_cons (ae_var 0) ae_non (aq_cons (ae_var 1) ae_non aq_nil))) (aa_cons (ae_lst (aa_cons ae_bl (aa_cons ae_bl aa_nil))) aa_nil)))) aa_nil)))
    (ass_cons (as_expr (ae_m PySem.F.plainAttrs_list PySem.F.slot_list_append PySem.F.type_list_append mt_appendA (ae_var 3) (aa_cons (ae_tup (aa_cons (ae_tup (aa_cons (ae_tup (aa_cons (ae_str [99, 104, 101, 99, 107]) (aa_cons (ae_tup (aa_cons (ae_tup (aa_cons (ae_var 0) (aa_cons (ae_str [58, 61]) (aa_cons (ae_tup (aa_cons (ae_str [120]) aa_nil)) aa_nil)))) aa_nil)) aa_nil))) (aa_cons (ae_tup (aa_cons (ae_str [103, 105, 118, 101]) (aa_cons (ae_var 1) (aa_cons (ae_tup (aa_cons (ae_str [121]) aa_nil)) aa_nil)))) aa_nil))) (aa_cons ae_d0 (aa_cons (ae_lst (aa_cons ae_bl (aa_cons ae_bl aa_nil))) aa_nil)))) aa_nil)))
    (ass_cons (as_expr (ae_m PySem.F.plainAttrs_list PySem.F.slot_list_append PySem.F.type_list_append mt_appendA (ae_var 3) (aa_cons (ae_tup (aa_cons (ae_tup (aa_cons (ae_tup (aa_cons (ae_str [99, 104, 101, 99, 107]) (aa_cons (ae_tup (aa_cons (ae_tup (aa_cons (ae_var 0) (aa_cons (ae_str [58, 61]) (aa_cons (ae_tup aa_nil) aa_nil)))) aa_nil)) aa_nil))) aa_nil)) (aa_cons ae_d0 (aa_cons (ae_lst (aa_cons ae_bl (aa_cons ae_bl aa_nil))) aa_nil)))) aa_nil)))
    (ass_one (as_ret (ae_op op_addA (ae_var 3) (ae_lst (aa_cons (ae_tup (aa_cons (ae_op op_addA (ae_var 2) (ae_tup (aa_cons (ae_tup (aa_cons (ae_str [115, 101, 116]) (aa_cons (ae_var 1) (aa_cons (ae_tup (aa_cons (ae_str [121]) aa_nil)) aa_nil)))) aa_nil))) (aa_cons ae_d0 (aa_cons (ae_lst (aa_cons ae_bl (aa_cons ae_bl aa_nil))) aa_nil)))) aa_nil))))))))))))))))))))))
theorem ok__law_shown (Fx : Facts K mg) : OkF P w K mg base 11 "_law_shown" ["rows", "name", "found"] C__law_shown := by
  unfold C__law_shown
  have ok__law_run_ := (ok__law_run Fx : OkF P w K mg base 10 "_law_run" ["env", "rows"] _).mono (show 10 ≤ 10 by omega)
  have hN := sc__law_shown.nd
  refine ok_def (k := 10) (N := N__law_shown) (ps := ["rows", "name", "found"]) (st := st__law_shown) (x := "_law_shown") (B := B__law_shown) Fx.d__law_shown sc__law_shown fun f cdv A outer s H E hr hx hp tk => ?_
  exact (ass_cons (as_if (AW.at (aw_or (at_not (at_val (ae_isi isT_tup (ae_var 2) Fx.n_isinstance Fx.n_tuple bt_tuple))) (aw_or1 (at_cmp (op_neA hr.rm.units) (ae_callB call_lenA Fx.n_len bt_len (aa_cons (ae_var 2) aa_nil)) ae_int)))) (ass_one (as_ret ae_bl)) ass_nil)
    (ass_cons (as_setLc 3 [("env", 4)] rfl hN (sw_true rfl rfl rfl rfl) (ai_val (ae_var 2)) (by exact blk_ok (N := N__law_shown) (sc := defScope st__law_shown) rfl (by decide +kernel) (by decide +kernel) (by decide +kernel) (by decide +kernel)) (by decide) (fun _ _ _ _ _ => (ag_nm 4 hN)) (fun _ _ _ _ _ => ats_nil) (fun _ _ _ _ _ => (ae_callO (ok__law_run_) hr psd0 (aa_cons (ae_var 4) (aa_cons (ae_var 0) aa_nil)) (len_cons (len_cons len_nil)))))
    (ass_one (as_ret (ae_and (ae_cmp (op_eqA hr.rm.units) (ae_lc [("end", 5)] rfl hN (ai_val (ae_var 3)) (by exact blk_ok (N := N__law_shown) (sc := defScope st__law_shown) rfl (by decide +kernel) (by decide +kernel) (by decide +kernel) (by decide +kernel)) (by decide) (fun _ _ _ _ _ => (ag_nm 5 hN)) (fun _ _ _ _ _ => ats_nil) (fun _ _ _ _ _ => (ae_ix (ae_var 5) ae_int))) (ae_op op_repA (ae_lst (aa_cons (ae_str [100, 111, 110, 101]) aa_nil)) ae_int)) (ae_and1 (ae_cmp (op_neA hr.rm.units) (ae_get1 (hu_of hr.rm) (ae_ix (ae_ix (ae_var 3) ae_int) ae_int) (ae_var 1)) (ae_get1 (hu_of hr.rm) (ae_ix (ae_ix (ae_var 3) ae_int) ae_int) (ae_var 1)))))))))
theorem ok__law_broken (Fx : Facts K mg) : OkF P w K mg base 11 "_law_broken" ["rows", "name", "found"] C__law_broken := by
  unfold C__law_broken
  have ok__law_run_ := (ok__law_run Fx : OkF P w K mg base 10 "_law_run" ["env", "rows"] _).mono (show 10 ≤ 10 by omega)
  have hN := sc__law_broken.nd
  refine ok_def (k := 10) (N := N__law_broken) (ps := ["rows", "name", "found"]) (st := st__law_broken) (x := "_law_broken") (B := B__law_broken) Fx.d__law_broken sc__law_broken fun f cdv A outer s H E hr hx hp tk => ?_
  exact (ass_cons (as_if (AW.at (aw_or (at_not (at_val (ae_isi isT_tup (ae_var 2) Fx.n_isinstance Fx.n_tuple bt_tuple))) (aw_or (at_cmp (op_neA hr.rm.units) (ae_callB call_lenA Fx.n_len bt_len (aa_cons (ae_var 2) aa_nil)) ae_int) (aw_or (at_cmp (op_neA hr.rm.units) (ae_callB call_lenA Fx.n_len bt_len (aa_cons (ae_ix (ae_var 2) ae_int) aa_nil)) ae_int) (aw_or1 (at_cmp op_notInA (ae_ix (ae_ix (ae_ix (ae_var 2) ae_int) ae_int) ae_int) (ae_tup (aa_cons (ae_str [103, 105, 118, 101]) (aa_cons (ae_str [99, 104, 101, 99, 107]) aa_nil))))))))) (ass_one (as_ret ae_bl)) ass_nil)
    (ass_cons (as_par (i := 3) (j := 4) rfl hN (aa_cons (ae_callO (ok__law_run_) hr hx (aa_cons (ae_ix (ae_var 2) ae_int) (aa_cons (ae_var 0) aa_nil)) (len_cons (len_cons len_nil))) (aa_cons (ae_callO (ok__law_run_) hr hx (aa_cons (ae_ix (ae_var 2) ae_int) (aa_cons (ae_op op_addA (ae_var 0) (ae_ix (ae_var 2) ae_int)) aa_nil)) (len_cons (len_cons len_nil))) aa_nil)))
    (ass_one (as_ret (ae_and (ae_cmp (op_eqA hr.rm.units) (ae_lst (aa_cons (ae_ix (ae_var 3) ae_int) (aa_cons (ae_ix (ae_var 4) ae_int) aa_nil))) (ae_op op_repA (ae_lst (aa_cons (ae_str [100, 111, 110, 101]) aa_nil)) ae_int)) (ae_and1 (ae_cmp (op_neA hr.rm.units) (ae_get1 (hu_of hr.rm) (ae_ix (ae_var 3) ae_int) (ae_var 1)) (ae_get1 (hu_of hr.rm) (ae_ix (ae_var 4) ae_int) (ae_var 1)))))))))
theorem ok__law_right (Fx : Facts K mg) : OkF P w K mg base 20 "_law_right" ["rows", "names", "due", "last"] C__law_right := by
  unfold C__law_right
  have ok_fixed_ := (ok_fixed Fx : OkF P w K mg base 18 "fixed" ["file"] _).mono (show 18 ≤ 19 by omega)
  have ok_lasts_ := (ok_lasts Fx : OkF P w K mg base 19 "lasts" ["file", "name"] _).mono (show 19 ≤ 19 by omega)
  have ok_breaker_ := (ok_breaker Fx : OkF P w K mg base 19 "breaker" ["file", "name"] _).mono (show 19 ≤ 19 by omega)
  have ok_unfixed_ := (ok_unfixed Fx : OkF P w K mg base 18 "unfixed" ["file", "name"] _).mono (show 18 ≤ 19 by omega)
  have ok__law_shown_ := (ok__law_shown Fx : OkF P w K mg base 11 "_law_shown" ["rows", "name", "found"] _).mono (show 11 ≤ 19 by omega)
  have ok__law_broken_ := (ok__law_broken Fx : OkF P w K mg base 11 "_law_broken" ["rows", "name", "found"] _).mono (show 11 ≤ 19 by omega)
  have hN := sc__law_right.nd
  refine ok_def (k := 19) (N := N__law_right) (ps := ["rows", "names", "due", "last"]) (st := st__law_right) (x := "_law_right") (B := B__law_right) Fx.d__law_right sc__law_right fun f cdv A outer s H E hr hx hp tk => ?_
  exact (ass_cons (as_if (AW.at (aw_or (at_cmp (op_dneA (hu66_of hr.rm)) (ae_callO (ok_fixed_) hr hx (aa_cons (ae_var 0) aa_nil) (len_cons len_nil)) (ae_var 2)) (aw_or (at_cmp (op_neA hr.rm.units) (ae_callTy (call_listDA rfl) Fx.n_list bt_list (aa_cons (ae_callO (ok_fixed_) hr hx (aa_cons (ae_var 0) aa_nil) (len_cons len_nil)) aa_nil)) (ae_callB (call_sortedDA rfl) Fx.n_sorted bt_sorted (aa_cons (ae_var 2) aa_nil))) (aw_or1 (at_cmp (op_neA hr.rm.units) (ae_lc [("name", 5)] rfl hN (ai_val (ae_var 1)) (by exact blk_ok (N := N__law_right) (sc := defScope st__law_right) rfl (by decide +kernel) (by decide +kernel) (by decide +kernel) (by decide +kernel)) (by decide) (fun _ _ _ _ _ => (ag_nm 5 hN)) (fun _ _ _ _ _ => ats_nil) (fun _ _ _ _ _ => (ae_callO (ok_lasts_) hr psd0 (aa_cons (ae_var 0) (aa_cons (ae_var 5) aa_nil)) (len_cons (len_cons len_nil))))) (ae_var 3)))))) (ass_one (as_ret ae_bl)) ass_nil)
    (ass_cons (as_set 4 hN (ae_and (ae_cmp (op_eqA hr.rm.units) (ae_var 3) (ae_lst (aa_cons ae_bl (aa_cons ae_bl aa_nil)))) (ae_and1 (ae_cmp (op_deqA (hu66_of hr.rm)) (ae_var 2) ae_d0))))
    (ass_cons (as_for hp rfl (ai_zip (aa_cons (ae_var 1) (aa_cons (ae_var 3) aa_nil)) Fx.n_zip) (ag_tp (is := [5, 6]) rfl (pgs_cons (pg_name (i := 5) hN rfl (by first | exact .inl rfl | exact .inr rfl) (by first | exact .inl rfl | exact .inr rfl)) (pgs_cons (pg_name (i := 6) hN rfl (by first | exact .inl rfl | exact .inr rfl) (by first | exact .inl rfl | exact .inr rfl)) pgs_nil))) (ass_cons (as_par (i := 7) (j := 8) rfl hN (aa_cons (ae_callO (ok_unfixed_) hr hx (aa_cons (ae_var 0) (aa_cons (ae_var 5) aa_nil)) (len_cons (len_cons len_nil))) (aa_cons (ae_callO (ok_breaker_) hr hx (aa_cons (ae_var 0) (aa_cons (ae_var 5) aa_nil)) (len_cons (len_cons len_nil))) aa_nil)))
    (ass_cons (as_if (AW.at (aw_or (at_cmp (op_neA hr.rm.units) (ae_cmp op_isA (ae_var 7) ae_non) (ae_or (ae_rin (hu_of hr.rm) (ae_var 5) (ae_var 2)) (ae_or1 (ae_var 4)))) (aw_or1 (at_cmp (op_neA hr.rm.units) (ae_cmp op_isA (ae_var 8) ae_non) (ae_var 6))))) (ass_one (as_ret ae_bl)) ass_nil)
    (ass_cons (as_if (AW.at (aw_and (at_cmp op_isNotA (ae_var 7) ae_non) (aw_and1 (at_not (at_val (ae_callO (ok__law_shown_) hr hx (aa_cons (ae_var 0) (aa_cons (ae_var 5) (aa_cons (ae_var 7) aa_nil))) (len_cons (len_cons (len_cons len_nil))))))))) (ass_one (as_ret ae_bl)) ass_nil)
    (ass_one (as_if (AW.at (aw_and (at_cmp op_isNotA (ae_var 8) ae_non) (aw_and1 (at_not (at_val (ae_callO (ok__law_broken_) hr hx (aa_cons (ae_var 0) (aa_cons (ae_var 5) (aa_cons (ae_var 8) aa_nil))) (len_cons (len_cons (len_cons len_nil))))))))) (ass_one (as_ret ae_bl)) ass_nil))))))
    (ass_one (as_ret ae_bl)))))
theorem ok_law (Fx : Facts K mg) : OkF P w K mg base 21 "law" ["script"] C_law := by
  unfold C_law
  have ok__law_begin_ := (ok__law_begin Fx : OkF P w K mg base 1 "_law_begin" ["script"] _).mono (show 1 ≤ 20 by omega)
  have ok__law_names_ := (ok__law_names Fx : OkF P w K mg base 3 "_law_names" ["state", "many"] _).mono (show 3 ≤ 20 by omega)
  have ok__law_draw_ := (ok__law_draw Fx : OkF P w K mg base 2 "_law_draw" ["state", "many"] _).mono (show 2 ≤ 20 by omega)
  have ok__law_rows_ := (ok__law_rows Fx : OkF P w K mg base 1 "_law_rows" ["a", "b"] _).mono (show 1 ≤ 20 by omega)
  have ok__law_right_ := (ok__law_right Fx : OkF P w K mg base 20 "_law_right" ["rows", "names", "due", "last"] _).mono (show 20 ≤ 20 by omega)
  have ok_unfixed_ := (ok_unfixed Fx : OkF P w K mg base 18 "unfixed" ["file", "name"] _).mono (show 18 ≤ 20 by omega)
  have ok_lasts_ := (ok_lasts Fx : OkF P w K mg base 19 "lasts" ["file", "name"] _).mono (show 19 ≤ 20 by omega)
  have ok_fixed_ := (ok_fixed Fx : OkF P w K mg base 18 "fixed" ["file"] _).mono (show 18 ≤ 20 by omega)
  have hN := sc_law.nd
  refine ok_def (k := 20) (N := N_law) (ps := ["script"]) (st := st_law) (x := "law") (B := B_law) Fx.d_law sc_law fun f cdv A outer s H E hr hx hp tk => ?_
  exact (ass_cons (as_set 1 hN (ae_callO (ok__law_begin_) hr hx (aa_cons (ae_var 0) aa_nil) (len_cons len_nil)))
    (ass_cons (as_for hp rfl (ai_range (aa_cons (ae_op op_addA ae_int (ae_callB (call_minA rfl) Fx.n_min bt_min (aa_cons ae_int (aa_cons (ae_callB call_lenA Fx.n_len bt_len (aa_cons (ae_var 0) aa_nil)) aa_nil)))) aa_nil) Fx.n_range) (ag_nm 2 hN) (ass_cons (as_set 3 hN (ae_callO (ok__law_names_) hr hx (aa_cons (ae_var 1) (aa_cons ae_int aa_nil)) (len_cons (len_cons len_nil))))
    (ass_cons (as_set 3 hN (ae_if (at_cmp (op_eqA hr.rm.units) (ae_callO (ok__law_draw_) hr hx (aa_cons (ae_var 1) (aa_cons ae_int aa_nil)) (len_cons (len_cons len_nil))) ae_int) (ae_rev (ae_var 3) (ae_neg ae_int)) (ae_var 3)))
    (ass_one (as_for hp rfl (ai_val (ae_callO (ok__law_rows_) hr hx (aa_cons (ae_ix (ae_var 3) ae_int) (aa_cons (ae_ix (ae_var 3) ae_int) aa_nil)) (len_cons (len_cons len_nil)))) (ag_tp (is := [4, 5, 6]) rfl (pgs_cons (pg_name (i := 4) hN rfl (by first | exact .inl rfl | exact .inr rfl) (by first | exact .inl rfl | exact .inr rfl)) (pgs_cons (pg_name (i := 5) hN rfl (by first | exact .inl rfl | exact .inr rfl) (by first | exact .inl rfl | exact .inr rfl)) (pgs_cons (pg_name (i := 6) hN rfl (by first | exact .inl rfl | exact .inr rfl) (by first | exact .inl rfl | exact .inr rfl)) pgs_nil)))) (ass_one (as_if (at_not (at_val (ae_callO (ok__law_right_) hr hx (aa_cons (ae_var 4) (aa_cons (ae_var 3) (aa_cons (ae_var 5) (aa_cons (ae_var 6) aa_nil)))) (len_cons (len_cons (len_cons (len_cons len_nil))))))) (ass_one (as_ret ae_bl)) ass_nil)))))))
    (ass_one (as_ret (ae_and (ae_cmp op_isNotA (ae_callO (ok_unfixed_) hr hx (aa_cons (ae_tup aa_nil) (aa_cons (ae_str [78, 69, 87]) aa_nil)) (len_cons (len_cons len_nil))) ae_non) (ae_and (ae_not (ae_callO (ok_lasts_) hr hx (aa_cons (ae_tup aa_nil) (aa_cons (ae_str [78, 69, 87]) aa_nil)) (len_cons (len_cons len_nil)))) (ae_and1 (ae_cmp (op_deqA (hu66_of hr.rm)) (ae_callO (ok_fixed_) hr hx (aa_cons (ae_tup aa_nil) aa_nil) (len_cons len_nil)) ae_d0))))))))
end
end LK34

set_option Elab.async false
set_option linter.all false
set_option maxRecDepth 100000
set_option maxHeartbeats 1000000
/-! Al, plain: reasoning about what is computed. -/
namespace Al
open PySem PySem.Spec PyProof.Rows L2
/-- it ends well, and so -/
def Ends {α : Type} (r : Res α) (Q : α → Store → Prop) : Prop := match r with
  | .ok a S => Q a S
  | _ => False
section
variable {α β : Type} {r : Res α} {Q R : α → Store → Prop}
@[simp] theorem ends_ok {a : α} {S : Store} : Ends (.ok a S) Q = Q a S := rfl
@[simp] theorem bind_assoc {γ : Type} {f : α → Store → Res β} {g : β → Store → Res γ} : (r.bind f).bind g = r.bind fun a S => (f a S).bind g := by cases r <;> rfl
@[simp] theorem bind_ret : (r.bind fun a S => Res.ok a S) = r := by cases r <;> rfl
theorem ends_bind {f : α → Store → Res β} {Q : β → Store → Prop} : Ends (r.bind f) Q = Ends r fun a S => Ends (f a S) Q := by cases r <;> rfl
theorem Ends.mono (h : Ends r Q) (i : ∀ a S, Q a S → R a S) : Ends r R := by
  cases r with
  | ok a S => exact i a S h
  | _ => exact h.elim
/-- go on behind a part -/
theorem Ends.thn {f : α → Store → Res β} {P : β → Store → Prop} (h : Ends r Q) (i : ∀ a S, Q a S → Ends (f a S) P) : Ends (r.bind f) P := by
  rw [ends_bind]; exact h.mono i
theorem Ends.ex (h : Ends r Q) : ∃ a S, r = .ok a S ∧ Q a S := by
  cases r with
  | ok a S => exact ⟨a, S, rfl, h⟩
  | _ => exact h.elim
theorem Ends.eq {a : α} {S : Store} (h : r = .ok a S) (q : Q a S) : Ends r Q := by rw [h]; exact q
end
@[simp] theorem quiet_ok {α : Type} (a : α) (S : Store) : (Res.ok a S).quiet = .ok a S := rfl
theorem ends_quiet {α : Type} {r : Res α} {Q : α → Store → Prop} : Ends r.quiet Q = Ends r Q := by cases r <;> rfl
@[simp] theorem of_some {α : Type} (p : α × Store) : Res.of (some p) = .ok p.1 p.2 := rfl
@[simp] theorem lim_is : lim = 16777216 := rfl
/-! ### evaluation -/
section
variable (ρ : Env) (S : Store)
@[simp] theorem ev_C (d : D) : eC d ρ S = .ok d S := rfl
@[simp] theorem ev_op (f : F2) (a b : EF) : eOp f a b ρ S = (a ρ S).bind fun x S1 => (b ρ S1).bind fun y S2 => .of (f x y S2) := rfl
@[simp] theorem ev_chain (f g : F2) (a b c : EF) : eChain f g a b c ρ S = (a ρ S).bind fun x S1 => (b ρ S1).bind fun y S2 => (Res.of (f x y S2)).bind fun z S3 => match z with
  | .bl true => (c ρ S3).bind fun w S4 => .of (g y w S4)
  | .bl false => .ok (.bl false) S3
  | _ => .stuck := rfl
@[simp] theorem ev_tOf (F : EF) : tOf F ρ S = (F ρ S).bind asB := rfl
@[simp] theorem asB_bl (b : Bool) : asB (.bl b) S = .ok b S := rfl
@[simp] theorem ev_tAnd (t u : TF) : tAndF t u ρ S = (t ρ S).bind fun b S1 => if b = true then u ρ S1 else .ok false S1 := rfl
@[simp] theorem ev_tOr (t u : TF) : tOrF t u ρ S = (t ρ S).bind fun b S1 => if b = true then .ok true S1 else u ρ S1 := rfl
@[simp] theorem ev_tNot (t : TF) : tNotF t ρ S = (t ρ S).bind fun b S1 => .ok (!b) S1 := rfl
@[simp] theorem ev_tYes : tYesF ρ S = .ok true S := rfl
@[simp] theorem ev_and (a b : EF) : eAnd a b ρ S = (a ρ S).bind fun x S1 => match x with
  | .bl true => b ρ S1
  | .bl false => .ok (.bl false) S1
  | _ => .stuck := rfl
@[simp] theorem ev_or (a b : EF) : eOr a b ρ S = (a ρ S).bind fun x S1 => match x with
  | .bl true => .ok (.bl true) S1
  | .bl false => b ρ S1
  | _ => .stuck := rfl
@[simp] theorem ev_not (a : EF) : eNot a ρ S = (a ρ S).bind fun x S1 => match x with
  | .bl b => .ok (.bl (!b)) S1
  | _ => .stuck := rfl
@[simp] theorem ev_neg (a : EF) : eNeg a ρ S = (a ρ S).bind fun x S1 => match x with
  | .int i => .ok (.int (-i)) S1
  | _ => .stuck := rfl
@[simp] theorem ev_if (t : TF) (a b : EF) : eIf t a b ρ S = (t ρ S).bind fun c S1 => if c = true then a ρ S1 else b ρ S1 := rfl
@[simp] theorem ev_aNil : aNil ρ S = .ok [] S := rfl
@[simp] theorem ev_aCons (a : EF) (r : AF) : aCons a r ρ S = (a ρ S).bind fun x S1 => (r ρ S1).bind fun xs S2 => .ok (x :: xs) S2 := rfl
@[simp] theorem ev_tup (a : AF) : eTup a ρ S = (a ρ S).bind fun xs S1 => if xs.length ≤ lim then .ok (.tup xs) S1 else .stuck := rfl
@[simp] theorem ev_lst (a : AF) : eLst a ρ S = (a ρ S).bind fun xs S1 => if xs.length ≤ lim then .ok (.ref S1.length) (S1 ++ [.lst xs]) else .stuck := rfl
@[simp] theorem ev_call (g : FN) (a : AF) : eCall g a ρ S = (a ρ S).bind fun xs S1 => .of (g xs S1) := rfl
@[simp] theorem ev_callD (C : CF) (a : AF) : eCallD C a ρ S = (a ρ S).bind fun ds S1 => C ds S1 := rfl
@[simp] theorem ev_isi (t : Kd → Bool) (a : EF) : eIsi t a ρ S = (a ρ S).bind fun x S1 => match kdOf x S1 with
  | some k => .ok (.bl (t k)) S1
  | none => .stuck := rfl
@[simp] theorem ev_m (T : String) (g : FM) (o : EF) (a : AF) : eM T g o a ρ S = (o ρ S).bind fun x S1 => if tyD T x S1 = true then (a ρ S1).bind fun ds S2 => .of (g x ds S2) else .stuck := rfl
@[simp] theorem ev_pNone : pNone ρ S = .ok none S := rfl
@[simp] theorem ev_pSome (a : EF) : pSome a ρ S = (a ρ S).bind fun x S1 => match x with
  | .int i => .ok (some i) S1
  | _ => .stuck := rfl
@[simp] theorem ev_sl (a : EF) (lo hi : PF) : eSl a lo hi ρ S = (a ρ S).bind fun x S1 => (lo ρ S1).bind fun l S2 => (hi ρ S2).bind fun u S3 => .of (sliceO x l u S3) := rfl
@[simp] theorem ev_nx : sNx ρ S = .ok (.nx ρ) S := rfl
@[simp] theorem ev_bk : sBk ρ S = .ok (.bk ρ) S := rfl
@[simp] theorem ev_ct : sCt ρ S = .ok (.ct ρ) S := rfl
@[simp] theorem ev_retN : sRetN ρ S = .ok (.ret .non) S := rfl
@[simp] theorem ev_seq (a b : SF) : sSeq a b ρ S = (a ρ S).bind fun o S1 => match o with
  | .nx ρ1 => b ρ1 S1
  | o => .ok o S1 := rfl
@[simp] theorem ev_expr (a : EF) : sExpr a ρ S = (a ρ S).bind fun _ S1 => .ok (.nx ρ) S1 := rfl
@[simp] theorem ev_ret (a : EF) : sRet a ρ S = (a ρ S).bind fun d S1 => .ok (.ret d) S1 := rfl
@[simp] theorem ev_sIf (t : TF) (a b : SF) : sIf t a b ρ S = (t ρ S).bind fun c S1 => if c = true then a ρ S1 else b ρ S1 := rfl
@[simp] theorem ev_set (i : Nat) (a : EF) : sSet i a ρ S = (a ρ S).bind fun d S1 => .ok (.nx (ρ.set i (some d))) S1 := rfl
@[simp] theorem ev_asg (t : Tg) (a : EF) : sAsg t a ρ S = (a ρ S).bind fun d S1 => match tgD t d ρ with
  | some ρ' => .ok (.nx ρ') S1
  | none => .stuck := rfl
@[simp] theorem ev_par (i j : Nat) (a : AF) : sPar i j a ρ S = (a ρ S).bind fun ds S1 => match ds with
  | [x, y] => .ok (.nx ((ρ.set i (some x)).set j (some y))) S1
  | _ => .stuck := rfl
@[simp] theorem ev_put (g : D → D → D → Store → Option Store) (v o i : EF) : sPut g v o i ρ S = (v ρ S).bind fun x S1 => (o ρ S1).bind fun y S2 => (i ρ S2).bind fun z S3 => match g y z x S3 with
  | some S4 => .ok (.nx ρ) S4
  | none => .stuck := rfl
@[simp] theorem ev_for (it : IF) (t : Tg) (body : SF) : sFor it t body ρ S = (it ρ S).bind fun src S1 => forF src.nxt t body src.fuel 0 ρ S1 := rfl
@[simp] theorem ev_while (c : TF) (body : SF) : sWhile c body ρ S = whileF c body turns ρ S := rfl
@[simp] theorem ev_lc (it : IF) (t : Tg) (ti : TF) (el : EF) (vs : List Nat) : eLc it t ti el vs ρ S = (it ρ S).bind fun src S1 => lcF src.nxt t ti el S1.length src.fuel 0 (wipeE ρ vs) (S1 ++ [.lst []]) := rfl
@[simp] theorem ev_iVal (a : EF) : iVal a ρ S = (a ρ S).bind fun d S1 => ofSrc (srcOf d S1) S1 := rfl
@[simp] theorem ev_iEn (a : AF) : iEn a ρ S = (a ρ S).bind fun ds S1 => match ds with
  | [d] => ofSrc (srcEn d S1) S1
  | _ => .stuck := rfl
@[simp] theorem ev_iRange (a : AF) : iRange a ρ S = (a ρ S).bind fun ds S1 => ofSrc (srcRg ds) S1 := rfl
@[simp] theorem ev_body (n : Nat) (B : SF) (ds : List D) : bodyF n B ds S = (B (startE n ds) S).bind fun o S' => match o with
  | .ret d => .ok d S'
  | .nx _ => .ok .non S'
  | _ => .stuck := rfl
@[simp] theorem ofSrc_some (s : Src) : ofSrc (some s) S = .ok s S := rfl
end
@[simp] theorem ev_var (i : Nat) (ρ : Env) (S : Store) (d : D) (h : ρ[i]? = some (some d)) : eVar i ρ S = .ok d S := by unfold eVar; rw [h]
@[simp] theorem ev_aug (i : Nat) (f : F2) (a : EF) (ρ : Env) (S : Store) (x : D) (h : ρ[i]? = some (some x)) : sAug i f a ρ S = (a ρ S).bind fun y S1 => (Res.of (f x y S1)).bind fun z S2 => .ok (.nx (ρ.set i (some z))) S2 := by
  unfold sAug; rw [h]
@[simp] theorem iaddO_int (i j : Int) (S : Store) : iaddO (.int i) (.int j) S = some (.int (i + j), S) := rfl
/-! ### operations on known kinds -/
section
variable (S : Store) (i j : Int) (a b : List Nat) (ds es : List D)
@[simp] theorem addO_int : addO (.int i) (.int j) S = some (.int (i + j), S) := rfl
@[simp] theorem addO_str : addO (.str a) (.str b) S = if a.length + b.length ≤ lim then some (.str (a ++ b), S) else none := rfl
@[simp] theorem addO_tup : addO (.tup ds) (.tup es) S = if ds.length + es.length ≤ lim then some (.tup (ds ++ es), S) else none := rfl
@[simp] theorem subO_int : subO (.int i) (.int j) S = some (.int (i - j), S) := rfl
@[simp] theorem mulO_int : mulO (.int i) (.int j) S = if smallI i || smallI j then some (.int (i * j), S) else none := rfl
@[simp] theorem modO_int : modO (.int i) (.int j) S = if 0 < j then some (.int (i % j), S) else none := rfl
@[simp] theorem fdivO_int : fdivO (.int i) (.int j) S = if 0 < j ∧ j < 1073741824 then some (.int (i / j), S) else none := rfl
@[simp] theorem eqO_str : eqO (.str a) (.str b) S = some (.bl (a == b), S) := rfl
@[simp] theorem eqO_int : eqO (.int i) (.int j) S = some (.bl (i == j), S) := rfl
@[simp] theorem neO_str : neO (.str a) (.str b) S = some (.bl (!(a == b)), S) := rfl
@[simp] theorem neO_int : neO (.int i) (.int j) S = some (.bl (!(i == j)), S) := rfl
@[simp] theorem ltO_int : ltO (.int i) (.int j) S = some (.bl (decide (i < j)), S) := rfl
@[simp] theorem leO_int : leO (.int i) (.int j) S = some (.bl (decide (i ≤ j)), S) := rfl
@[simp] theorem gtO_int : gtO (.int i) (.int j) S = some (.bl (decide (j < i)), S) := rfl
@[simp] theorem geO_int : geO (.int i) (.int j) S = some (.bl (decide (j ≤ i)), S) := rfl
@[simp] theorem inO_sign (c : Nat) : inO (.str [c]) (.str b) S = some (.bl (decide (c ∈ b)), S) := rfl
@[simp] theorem notInO_sign (c : Nat) : notInO (.str [c]) (.str b) S = some (.bl (!decide (c ∈ b)), S) := rfl
@[simp] theorem lenF_str : lenF [.str a] S = if a.length ≤ lim then some (.int a.length, S) else none := rfl
@[simp] theorem lenF_tup : lenF [.tup ds] S = some (.int ds.length, S) := rfl
@[simp] theorem lenF_scl : lenF [.scl ds] S = some (.int ds.length, S) := rfl
theorem lenF_ref (n : Nat) (h : S[n]? = some (.lst ds)) : lenF [.ref n] S = some (.int ds.length, S) := by unfold lenF; simp only [h]
@[simp] theorem ixO_tup : ixO (.tup ds) (.int i) S = (atI ds i).map fun d => (d, S) := rfl
@[simp] theorem ixO_str : ixO (.str a) (.int i) S = if a.length ≤ lim then (atI a i).map fun c => (.str [c], S) else none := rfl
theorem ixO_ref (n : Nat) (h : S[n]? = some (.lst ds)) : ixO (.ref n) (.int i) S = (atI ds i).map fun d => (d, S) := by
  show ((lstAt S n).bind fun xs => atI xs i).map (fun d => (d, S)) = _
  unfold lstAt; simp only [h]; rfl
@[simp] theorem kd_str : kdOf (.str a) S = some .str := rfl
@[simp] theorem kd_tup : kdOf (.tup ds) S = some .tup := rfl
@[simp] theorem kd_int : kdOf (.int i) S = some .int := rfl
@[simp] theorem isStr_str : isStr .str = true := rfl
@[simp] theorem isStr_tup : isStr .tup = false := rfl
@[simp] theorem isTup_str : isTup .str = false := rfl
@[simp] theorem isTup_tup : isTup .tup = true := rfl
@[simp] theorem intF_int : intF [.int i] S = some (.int i, S) := rfl
@[simp] theorem minF_int : minF [.int i, .int j] S = some (.int (if j < i then j else i), S) := rfl
@[simp] theorem sliceO_str (lo hi : Option Int) : sliceO (.str a) lo hi S = if a.length ≤ lim then some (.str (cutL a lo hi), S) else none := rfl
@[simp] theorem sliceO_tup (lo hi : Option Int) : sliceO (.tup ds) lo hi S = some (.tup (cutL ds lo hi), S) := rfl
@[simp] theorem srcOf_tup : srcOf (.tup ds) S = some ⟨ds.length + 1, fun i _ => nxL ds i⟩ := rfl
@[simp] theorem srcOf_str : srcOf (.str a) S = some ⟨a.length + 1, fun i _ => nxL (signs a) i⟩ := rfl
@[simp] theorem srcEn_tup : srcEn (.tup ds) S = some ⟨ds.length + 1, fun i _ => nxEn ds i⟩ := rfl
@[simp] theorem srcEn_str : srcEn (.str a) S = some ⟨a.length + 1, fun i _ => nxEn (signs a) i⟩ := rfl
theorem lstAt_of {n : Nat} {xs : List D} (h : S[n]? = some (.lst xs)) : lstAt S n = some xs := by unfold lstAt; simp only [h]
theorem dctAt_of {n : Nat} {xs : List (List Nat × D)} (h : S[n]? = some (.dct xs)) : dctAt S n = some xs := by unfold dctAt; simp only [h]
end
@[simp] theorem atI_0 {α : Type} (a : α) (l : List α) : L2.atI (a :: l) 0 = some a := L2.atI_nat (j := 0) rfl
@[simp] theorem atI_1 {α : Type} (a b : α) (l : List α) : L2.atI (a :: b :: l) 1 = some b := L2.atI_nat (j := 1) rfl
@[simp] theorem atI_2 {α : Type} (a b c : α) (l : List α) : L2.atI (a :: b :: c :: l) 2 = some c := L2.atI_nat (j := 2) rfl
theorem mapO_map {α β γ : Type} {f : β → Option γ} {g : α → β} {h : α → γ} : ∀ (l : List α), (∀ x ∈ l, f (g x) = some (h x)) → mapO f (l.map g) = some (l.map h)
  | [], _ => rfl
  | x :: l, e => by
    simp only [List.map_cons, mapO, e x (List.mem_cons_self ..), mapO_map l fun y hy => e y (List.mem_cons_of_mem _ hy)]
theorem mapO_all {α β : Type} {f : α → Option β} {h : α → β} (l : List α) (e : ∀ x ∈ l, f x = some (h x)) : mapO f l = some (l.map h) := by
  have := mapO_map (f := f) (g := id) (h := h) l e
  simpa using this
/-! ### loops -/
theorem for_ends {nxt : Nat → Store → Option (Option D)} {t : Tg} {body : SF} {Q : Out → Store → Prop} (len : Nat) (item : Nat → D) (I : Nat → Env → Store → Prop)
    (hn : ∀ i ρ S, I i ρ S → i ≤ len → nxt i S = if i < len then some (some (item i)) else some none)
    (step : ∀ i ρ S, i < len → I i ρ S → ∃ ρ1, tgD t (item i) ρ = some ρ1 ∧ Ends (body ρ1 S) fun o S1 => match o with
      | .nx ρ2 => I (i + 1) ρ2 S1
      | .ct ρ2 => I (i + 1) ρ2 S1
      | .bk ρ2 => Q (.nx ρ2) S1
      | .ret d => Q (.ret d) S1
      | .xc _ _ => False)
    (fin : ∀ ρ S, I len ρ S → Q (.nx ρ) S) : ∀ (n i : Nat) (ρ : Env) (S : Store), I i ρ S → i ≤ len → len < n + i → Ends (forF nxt t body n i ρ S) Q
  | 0, i, ρ, S, h, le, lt => absurd lt (by omega)
  | n + 1, i, ρ, S, h, le, lt => by
    unfold forF
    rw [hn i ρ S h le]
    by_cases hi : i < len
    · rw [if_pos hi]
      obtain ⟨ρ1, e1, e2⟩ := step i ρ S hi h
      simp only [e1]
      refine e2.thn fun o S1 q => ?_
      cases o with
      | nx ρ2 => exact for_ends len item I hn step fin n (i + 1) ρ2 S1 q hi (by omega)
      | ct ρ2 => exact for_ends len item I hn step fin n (i + 1) ρ2 S1 q hi (by omega)
      | bk ρ2 => exact q
      | ret d => exact q
      | xc y ρ2 => exact q.elim
    · rw [if_neg hi]
      obtain rfl : i = len := by omega
      exact fin ρ S h
theorem lc_ends {nxt : Nat → Store → Option (Option D)} {t : Tg} {ti : TF} {el : EF} {n : Nat} {ρ : Env} {Q : D → Store → Prop} (len : Nat) (item : Nat → D) (I : Nat → List D → Store → Prop) (small : len < lim)
    (hn : ∀ i acc S, I i acc S → i ≤ len → nxt i S = if i < len then some (some (item i)) else some none)
    (step : ∀ i acc S, i < len → I i acc S → S[n]? = some (.lst acc) → ∃ ρ1, tgD t (item i) ρ = some ρ1 ∧ Ends (ti ρ1 S) fun b S1 => if b = true then Ends (el ρ1 S1) fun y S2 => S2[n]? = some (.lst acc) ∧ I (i + 1) (acc ++ [y]) (S2.set n (.lst (acc ++ [y])))
      else S1[n]? = some (.lst acc) ∧ I (i + 1) acc S1)
    (fin : ∀ acc S, I len acc S → S[n]? = some (.lst acc) → Q (.ref n) S) :
    ∀ (m i : Nat) (acc : List D) (S : Store), I i acc S → S[n]? = some (.lst acc) → acc.length ≤ i → i ≤ len → len < m + i → Ends (lcF nxt t ti el n m i ρ S) Q
  | 0, i, acc, S, h, e, la, le, lt => absurd lt (by omega)
  | m + 1, i, acc, S, h, e, la, le, lt => by
    unfold lcF
    rw [hn i acc S h le]
    by_cases hi : i < len
    · rw [if_pos hi]
      obtain ⟨ρ1, e1, e2⟩ := step i acc S hi h e
      simp only [e1]
      rw [ends_bind, ends_quiet]
      refine e2.mono fun b S1 q => ?_
      cases b with
      | false =>
        simp only [Bool.false_eq_true, if_false] at q ⊢
        exact lc_ends len item I small hn step fin m (i + 1) acc S1 q.2 q.1 (by omega) hi (by omega)
      | true =>
        simp only [if_true] at q ⊢
        rw [ends_bind, ends_quiet]
        refine q.mono fun y S2 q2 => ?_
        rw [q2.1]
        have hl : n < S2.length := (List.getElem?_eq_some_iff.mp q2.1).1
        simp only
        rw [if_pos (by omega)]
        exact lc_ends len item I small hn step fin m (i + 1) (acc ++ [y]) _ q2.2 (by rw [List.getElem?_set_self hl]) (by simp; omega) hi (by omega)
    · rw [if_neg hi]
      obtain rfl : i = len := by omega
      exact fin acc S h e
theorem while_ends {c : TF} {body : SF} {Q : Out → Store → Prop} (I : Nat → Env → Store → Prop)
    (step : ∀ n ρ S, I n ρ S → Ends (c ρ S) fun b S1 => if b = true then Ends (body ρ S1) fun o S2 => match o with
        | .nx ρ2 => ∃ m, m < n ∧ I m ρ2 S2
        | .ct ρ2 => ∃ m, m < n ∧ I m ρ2 S2
        | .bk ρ2 => Q (.nx ρ2) S2
        | .ret d => Q (.ret d) S2
        | .xc _ _ => False
      else Q (.nx ρ) S1) : ∀ (n k : Nat) (ρ : Env) (S : Store), I n ρ S → n < k → Ends (whileF c body k ρ S) Q
  | n, 0, ρ, S, h, lt => absurd lt (by omega)
  | n, k + 1, ρ, S, h, lt => by
    unfold whileF
    refine (step n ρ S h).thn fun b S1 q => ?_
    cases b with
    | false => simp only [Bool.false_eq_true, if_false] at q ⊢; exact q
    | true =>
      simp only [if_true] at q ⊢
      refine q.thn fun o S2 q2 => ?_
      cases o with
      | nx ρ2 => obtain ⟨m, lm, hm⟩ := q2; exact while_ends I step m k ρ2 S2 hm (by omega)
      | ct ρ2 => obtain ⟨m, lm, hm⟩ := q2; exact while_ends I step m k ρ2 S2 hm (by omega)
      | bk ρ2 => exact q2
      | ret d => exact q2
      | xc y ρ2 => exact q2.elim
/-! sources -/
theorem nxL_is (ds : List D) (i : Nat) (h : i ≤ ds.length) : nxL ds i = if i < ds.length then some (some (ds.getD i .non)) else some none := by
  unfold nxL
  by_cases e : i = ds.length
  · rw [if_pos e, if_neg (by omega)]
  · have hl : i < ds.length := by omega
    rw [if_neg e, if_pos hl, List.getElem?_eq_getElem hl]
    simp [List.getD, List.getElem?_eq_getElem hl]
theorem nxEn_is (ds : List D) (i : Nat) (h : i ≤ ds.length) : nxEn ds i = if i < ds.length then some (some (.tup [.int (i : Nat), ds.getD i .non])) else some none := by
  unfold nxEn
  by_cases e : i = ds.length
  · rw [if_pos e, if_neg (by omega)]
  · have hl : i < ds.length := by omega
    rw [if_neg e, if_pos hl, List.getElem?_eq_getElem hl]
    simp [List.getD, List.getElem?_eq_getElem hl]
end Al
namespace Al
/-- for x in a tuple, a text -/
theorem for_tup {α : Type} (l : List α) (g : α → D) {v : Nat} {body : SF} {Q : Out → Store → Prop} {ρ : Env} {S : Store} (I : Nat → Env → Store → Prop) (h0 : I 0 ρ S)
    (step : ∀ i a ρ S, l[i]? = some a → I i ρ S → Ends (body (ρ.set v (some (g a))) S) fun o S1 => match o with
      | .nx ρ2 => I (i + 1) ρ2 S1
      | .ct ρ2 => I (i + 1) ρ2 S1
      | .bk ρ2 => Q (.nx ρ2) S1
      | .ret d => Q (.ret d) S1
      | .xc _ _ => False)
    (fin : ∀ ρ S, I l.length ρ S → Q (.nx ρ) S) : Ends (forF (fun i _ => nxL (l.map g) i) (.nm v) body (l.length + 1) 0 ρ S) Q := by
  refine for_ends l.length (fun i => (l.map g).getD i .non) I ?_ ?_ fin _ 0 _ _ h0 (Nat.zero_le _) (by omega)
  · intro i ρ S _ hi
    have := nxL_is (l.map g) i (by simpa using hi)
    simpa using this
  · intro i ρ S hi h
    refine ⟨_, rfl, ?_⟩
    have e : (l.map g).getD i .non = g l[i] := by simp [hi]
    rw [e]
    exact step i l[i] ρ S (List.getElem?_eq_getElem hi) h
/-- for i, x in enumerate(a tuple, a text) -/
theorem for_enum {α : Type} (l : List α) (g : α → D) {u v : Nat} {body : SF} {Q : Out → Store → Prop} {ρ : Env} {S : Store} (I : Nat → Env → Store → Prop) (h0 : I 0 ρ S)
    (step : ∀ i a ρ S, l[i]? = some a → I i ρ S → Ends (body ((ρ.set u (some (.int (i : Nat)))).set v (some (g a))) S) fun o S1 => match o with
      | .nx ρ2 => I (i + 1) ρ2 S1
      | .ct ρ2 => I (i + 1) ρ2 S1
      | .bk ρ2 => Q (.nx ρ2) S1
      | .ret d => Q (.ret d) S1
      | .xc _ _ => False)
    (fin : ∀ ρ S, I l.length ρ S → Q (.nx ρ) S) : Ends (forF (fun i _ => nxEn (l.map g) i) (.tp [u, v]) body (l.length + 1) 0 ρ S) Q := by
  refine for_ends l.length (fun i => .tup [.int (i : Nat), (l.map g).getD i .non]) I ?_ ?_ fin _ 0 _ _ h0 (Nat.zero_le _) (by omega)
  · intro i ρ S _ hi
    have := nxEn_is (l.map g) i (by simpa using hi)
    simpa using this
  · intro i ρ S hi h
    refine ⟨_, rfl, ?_⟩
    have e : (l.map g).getD i .non = g l[i] := by simp [hi]
    rw [e]
    exact step i l[i] ρ S (List.getElem?_eq_getElem hi) h
end Al

set_option Elab.async false
set_option linter.all false
set_option maxRecDepth 100000
set_option maxHeartbeats 1000000
/-! Al: how the later constructs evaluate, for simp. -/
namespace Al
open L2
section
variable {ρ : Env} {S : Store}
@[simp] theorem ev_fld (C : PySem.Addr) (f : PySem.Str) (o : EF) : eFld C f o ρ S = (o ρ S).bind fun x S1 => .of (fldO C f x S1) := rfl
@[simp] theorem ev_fldS (C : PySem.Addr) (f : PySem.Str) (v o : EF) : sFldS C f v o ρ S = (v ρ S).bind fun d S1 => (o ρ S1).bind fun x S2 => match fputO C f x d S2 with
  | some S3 => .ok (.nx ρ) S3
  | none => .stuck := rfl
@[simp] theorem ev_meth (C : PySem.Addr) (m : PySem.Str) (F : CF) (o : EF) (a : AF) : eMeth C m F o a ρ S = (o ρ S).bind fun x S1 => if insOf C m x S1 = true then (a ρ S1).bind fun ds S2 => F (x :: ds) S2 else .stuck := rfl
@[simp] theorem ev_make (C : PySem.Addr) (F : CF) (a : AF) : eMake C F a ρ S = (a ρ S).bind fun ds S1 => (F (.ref S1.length :: ds) (S1 ++ [.ins C []])).bind fun d S2 => match d with
  | .non => .ok (.ref S1.length) S2
  | _ => .stuck := rfl
@[simp] theorem ev_get1 (o k : EF) : eGet1 o k ρ S = (o ρ S).bind fun x S1 => if isDc x S1 = true then (k ρ S1).bind fun y S2 => .of (getO x y .non S2) else .stuck := rfl
@[simp] theorem ev_get2 (g : D → D → D → Store → Option (D × Store)) (o k z : EF) : eGet2 g o k z ρ S = (o ρ S).bind fun x S1 => if isDc x S1 = true then (k ρ S1).bind fun y S2 => (z ρ S2).bind fun w S3 => .of (g x y w S3) else .stuck := rfl
@[simp] theorem ev_dc (it : IF) (t : Tg) (ti : TF) (k v : EF) (vs : List Nat) : eDc it t ti k v vs ρ S = (it ρ S).bind fun src S1 => dcF src.nxt t ti k v S1.length src.fuel 0 (wipeE ρ vs) (S1 ++ [.dct []]) := rfl
@[simp] theorem ev_dcN (it : IF) (t : Tg) (ti : TF) (k v : EF) (vs : List Nat) : eDcN it t ti k v vs ρ S = (it ρ S).bind fun src S1 => dcN src.nxt t ti k v S1.length src.fuel 0 (wipeE ρ vs) (S1 ++ [.tdct false []]) := rfl
@[simp] theorem ev_lc2 (it : IF) (t : Tg) (ti : TF) (it1 : IF) (t1 : Tg) (ti1 : TF) (el : EF) (vs vs1 : List Nat) : eLc2 it t ti it1 t1 ti1 el vs vs1 ρ S = (it ρ S).bind fun src S1 => lc2F src.nxt t ti it1 t1 ti1 el vs1 S1.length src.fuel 0 (wipeE ρ vs) (S1 ++ [.lst []]) := rfl
@[simp] theorem ev_raise (C : PySem.Addr) (f : PySem.Str) (a : EF) : sRaise C f a ρ S = (a ρ S).bind fun d S1 => .exc ⟨C, [(f, d)]⟩ S1 := rfl
@[simp] theorem ev_lenSet (a : EF) : eLenSet a ρ S = (a ρ S).bind fun x S1 => match strsOf x S1 with
  | some l => if l.length < 4000 then .ok (.int ((dedT l).length : Nat)) S1 else .stuck
  | none => .stuck := rfl
@[simp] theorem ev_rev (a st : EF) : eRev a st ρ S = (a ρ S).bind fun x S1 => (st ρ S1).bind fun k S2 => match x, k with
  | .ref n, .int i => if i = -1 then (match S2[n]? with
    | some (.lst xs) => .ok (.ref S2.length) (S2 ++ [.lst xs.reverse])
    | _ => .stuck) else .stuck
  | _, _ => .stuck := rfl
@[simp] theorem ev_iZip (a : AF) : iZip a ρ S = (a ρ S).bind fun ds S1 => match ds with
  | [d, e] => ofSrc (srcZ d e S1) S1
  | _ => .stuck := rfl
@[simp] theorem isO_non (a : D) : isO a .non S = some (.bl (isNon a), S) := by cases a <;> rfl
@[simp] theorem isNotO_non (a : D) : isNotO a .non S = some (.bl (!isNon a), S) := by cases a <;> rfl
end
end Al

set_option Elab.async false
set_option linter.all false
set_option maxRecDepth 100000
set_option maxHeartbeats 1000000
/-! Al: results that may be exceptions. -/
namespace Al
/-- it ends so, or so with an exception -/
def Ex {α : Type} (r : Res α) (Q : α → Store → Prop) (E : Xc → Store → Prop) : Prop := match r with
  | .ok a S => Q a S
  | .exc x S => E x S
  | .stuck => False
section
variable {α β : Type} {r : Res α} {Q R : α → Store → Prop} {E F : Xc → Store → Prop}
@[simp] theorem ex_ok {a : α} {S : Store} : Ex (.ok a S) Q E = Q a S := rfl
@[simp] theorem ex_exc {x : Xc} {S : Store} : Ex (Res.exc x S : Res α) Q E = E x S := rfl
theorem Ends.x (h : Ends r Q) : Ex r Q E := by
  cases r with
  | ok a S => exact h
  | exc x S => exact h.elim
  | stuck => exact h.elim
theorem Ex.ends (h : Ex r Q fun _ _ => False) : Ends r Q := by
  cases r with
  | ok a S => exact h
  | exc x S => exact h.elim
  | stuck => exact h.elim
theorem Ex.thn {f : α → Store → Res β} {P : β → Store → Prop} (h : Ex r Q E) (i : ∀ a S, Q a S → Ex (f a S) P F) (e : ∀ x S, E x S → F x S) : Ex (r.bind f) P F := by
  cases r with
  | ok a S => exact i a S h
  | exc x S => exact e x S h
  | stuck => exact h.elim
theorem Ex.mono (h : Ex r Q E) (i : ∀ a S, Q a S → R a S) (e : ∀ x S, E x S → F x S) : Ex r R F := by
  cases r with
  | ok a S => exact i a S h
  | exc x S => exact e x S h
  | stuck => exact h.elim
end
theorem for_x {nxt : Nat → Store → Option (Option D)} {t : Tg} {body : SF} {Q : Out → Store → Prop} {E : Xc → Store → Prop} (len : Nat) (item : Nat → D) (I : Nat → Env → Store → Prop)
    (hn : ∀ i ρ S, I i ρ S → i ≤ len → nxt i S = if i < len then some (some (item i)) else some none)
    (step : ∀ i ρ S, i < len → I i ρ S → ∃ ρ1, tgD t (item i) ρ = some ρ1 ∧ Ex (body ρ1 S) (fun o S1 => match o with
      | .nx ρ2 => I (i + 1) ρ2 S1
      | .ct ρ2 => I (i + 1) ρ2 S1
      | .bk ρ2 => Q (.nx ρ2) S1
      | .ret d => Q (.ret d) S1
      | .xc x ρ2 => Q (.xc x ρ2) S1) E)
    (fin : ∀ ρ S, I len ρ S → Q (.nx ρ) S) : ∀ (m i : Nat) (ρ : Env) (S : Store), I i ρ S → i ≤ len → len < m + i → Ex (forF nxt t body m i ρ S) Q E
  | 0, i, ρ, S, h, le, lt => absurd lt (by omega)
  | m + 1, i, ρ, S, h, le, lt => by
    unfold forF
    rw [hn i ρ S h le]
    by_cases hi : i < len
    · rw [if_pos hi]
      obtain ⟨ρ1, e1, h1⟩ := step i ρ S hi h
      simp only [e1]
      refine h1.thn (fun o S1 q => ?_) fun x S q => q
      cases o with
      | nx ρ2 => exact for_x len item I hn step fin m (i + 1) ρ2 S1 q hi (by omega)
      | ct ρ2 => exact for_x len item I hn step fin m (i + 1) ρ2 S1 q hi (by omega)
      | bk ρ2 => exact q
      | ret d => exact q
      | xc x ρ2 => exact q
    · rw [if_neg hi]
      obtain rfl : i = len := by omega
      exact fin ρ S h
/-- for i, x in enumerate(a tuple) -/
theorem for_enumX {α : Type} (l : List α) (g : α → D) {u v : Nat} {body : SF} {Q : Out → Store → Prop} {E : Xc → Store → Prop} {ρ : Env} {S : Store} (I : Nat → Env → Store → Prop) (h0 : I 0 ρ S)
    (step : ∀ i a ρ S, l[i]? = some a → I i ρ S → Ex (body ((ρ.set u (some (.int (i : Nat)))).set v (some (g a))) S) (fun o S1 => match o with
      | .nx ρ2 => I (i + 1) ρ2 S1
      | .ct ρ2 => I (i + 1) ρ2 S1
      | .bk ρ2 => Q (.nx ρ2) S1
      | .ret d => Q (.ret d) S1
      | .xc x ρ2 => Q (.xc x ρ2) S1) E)
    (fin : ∀ ρ S, I l.length ρ S → Q (.nx ρ) S) : Ex (forF (fun i _ => nxEn (l.map g) i) (.tp [u, v]) body (l.length + 1) 0 ρ S) Q E := by
  refine for_x l.length (fun i => .tup [.int (i : Nat), (l.map g).getD i .non]) I ?_ ?_ fin _ 0 _ _ h0 (Nat.zero_le _) (by omega)
  · intro i ρ S _ hi
    have := nxEn_is (l.map g) i (by simpa using hi)
    simpa using this
  · intro i ρ S hi h
    refine ⟨_, rfl, ?_⟩
    have e : (l.map g).getD i .non = g l[i] := by simp [hi]
    rw [e]
    exact step i l[i] ρ S (List.getElem?_eq_getElem hi) h
end Al

set_option Elab.async false
set_option linter.all false
set_option maxRecDepth 100000
set_option maxHeartbeats 1000000
/-! Vs: values without a store (lists and dicts by content), and that the store's functions follow them, up to a renaming of some texts. -/
namespace Al
inductive U where
  | non | bl (b : Bool) | int (i : Int) | str (x : List Nat) | tup (us : List U) | lst (us : List U)
  | dct (ks : List (List Nat)) (us : List U) | tdct (ks us : List U)
  deriving Inhabited
abbrev VEnv := List (Option U)
abbrev Txt := List Nat
/-- texts that are renamed, and those of them that are met -/
structure Sy where
  K : List Txt
  K0 : List Txt
def Sy.free (s : Sy) (x : Txt) : Bool := !s.K.contains x
def nmCaps : List Nat := [65, 66, 67, 68, 69, 70, 71, 72, 73, 74, 75, 76, 77, 78, 79, 80, 81, 82, 83, 84, 85, 86, 87, 88, 89, 90, 95]
/-- a name -/
def nmB (x : Txt) : Bool := decide (1 ≤ x.length) && decide (x.length ≤ 8) && decide (x.head? ≠ some 95) && x.all fun c => nmCaps.contains c
/-- a renaming of these texts -/
structure Rn (s : Sy) (r : Txt → Txt) : Prop where
  fix : ∀ x, s.free x = true → r x = x
  inj : ∀ x y, r x = r y → x = y
  mono : ∀ x y, x ∈ s.K0 → y ∈ s.K0 → leT (r x) (r y) = leT x y
  good : ∀ x, x ∈ s.K0 → strsOk (r x) = true
  nm : ∀ x, x ∈ s.K0 → nmB (r x) = true
def unlO : O → O
  | .ldct k => .dct k
  | .tdct _ k => .tdct false k
  | o => o
abbrev View := Nat → Option O
/-- what is seen of a store: not the hidden ones; locked or not is the same -/
def vis (h : List Nat) (S : Store) : View := fun i => if i ∈ h then none else (S[i]?).map unlO
def latV (v : View) : D → Option (List D)
  | .ref n => match v n with
    | some (.lst ds) => some ds
    | _ => none
  | _ => none
def datV (v : View) : D → Option (List (Txt × D))
  | .ref n => match v n with
    | some (.dct ds) => some ds
    | _ => none
  | _ => none
def tatV (v : View) : D → Option (List (D × D))
  | .ref n => match v n with
    | some (.tdct _ ds) => some ds
    | _ => none
  | _ => none
section
variable (r : Txt → Txt) (v : View)
mutual
def rep : U → D → Prop
  | .non, d => d = .non
  | .bl b, d => d = .bl b
  | .int i, d => d = .int i
  | .str x, d => d = .str (r x)
  | .tup us, d => ∃ ds, d = .tup ds ∧ reps us ds
  | .lst us, d => ∃ ds, latV v d = some ds ∧ reps us ds
  | .dct ks us, d => ∃ kvs, datV v d = some kvs ∧ kvs.map (·.1) = ks.map r ∧ reps us (kvs.map (·.2))
  | .tdct ks us, d => ∃ kvs, tatV v d = some kvs ∧ reps ks (kvs.map (·.1)) ∧ reps us (kvs.map (·.2))
def reps : List U → List D → Prop
  | [], ds => ds = []
  | u :: us, ds => ∃ d e, ds = d :: e ∧ rep u d ∧ reps us e
end
end
def Le (v v' : View) : Prop := ∀ i o, v i = some o → v' i = some o
section
variable {r : Txt → Txt} {v v' : View}
theorem latV_mono (h : Le v v') {d : D} {ds : List D} (e : latV v d = some ds) : latV v' d = some ds := by
  unfold latV at e ⊢
  split at e
  · rename_i n
    split at e
    · rename_i q; rw [h _ _ q]; exact e
    · cases e
  · cases e
theorem datV_mono (h : Le v v') {d : D} {ds : List (Txt × D)} (e : datV v d = some ds) : datV v' d = some ds := by
  unfold datV at e ⊢
  split at e
  · rename_i n
    split at e
    · rename_i q; rw [h _ _ q]; exact e
    · cases e
  · cases e
theorem tatV_mono (h : Le v v') {d : D} {ds : List (D × D)} (e : tatV v d = some ds) : tatV v' d = some ds := by
  unfold tatV at e ⊢
  split at e
  · rename_i n
    split at e
    · rename_i q; rw [h _ _ q]; exact e
    · cases e
  · cases e
mutual
theorem rep.mono (h : Le v v') : ∀ (u : U) {d : D}, rep r v u d → rep r v' u d
  | .non, d, e => by unfold rep at e ⊢; exact e
  | .bl b, d, e => by unfold rep at e ⊢; exact e
  | .int i, d, e => by unfold rep at e ⊢; exact e
  | .str x, d, e => by unfold rep at e ⊢; exact e
  | .tup us, d, e => by unfold rep at e ⊢; obtain ⟨ds, e1, e2⟩ := e; exact ⟨ds, e1, reps.mono h us e2⟩
  | .lst us, d, e => by unfold rep at e ⊢; obtain ⟨ds, e1, e2⟩ := e; exact ⟨ds, latV_mono h e1, reps.mono h us e2⟩
  | .dct ks us, d, e => by unfold rep at e ⊢; obtain ⟨ds, e1, e2, e3⟩ := e; exact ⟨ds, datV_mono h e1, e2, reps.mono h us e3⟩
  | .tdct ks us, d, e => by unfold rep at e ⊢; obtain ⟨ds, e1, e2, e3⟩ := e; exact ⟨ds, tatV_mono h e1, reps.mono h ks e2, reps.mono h us e3⟩
theorem reps.mono (h : Le v v') : ∀ (us : List U) {ds : List D}, reps r v us ds → reps r v' us ds
  | [], ds, e => by unfold reps at e ⊢; exact e
  | u :: us, ds, e => by unfold reps at e ⊢; obtain ⟨d, x, e1, e2, e3⟩ := e; exact ⟨d, x, e1, rep.mono h u e2, reps.mono h us e3⟩
end
theorem reps.nil : reps r v [] [] := by unfold reps; rfl
theorem reps.nil_iff {ds : List D} (h : reps r v [] ds) : ds = [] := by unfold reps at h; exact h
theorem reps.cons {u : U} {us : List U} {d : D} {ds : List D} (h : rep r v u d) (hs : reps r v us ds) : reps r v (u :: us) (d :: ds) := by unfold reps; exact ⟨d, ds, rfl, h, hs⟩
theorem reps.cons_iff {u : U} {us : List U} {ds : List D} (h : reps r v (u :: us) ds) : ∃ d e, ds = d :: e ∧ rep r v u d ∧ reps r v us e := by unfold reps at h; exact h
theorem reps.length : ∀ {us : List U} {ds : List D}, reps r v us ds → ds.length = us.length
  | [], ds, h => by rw [h.nil_iff]; rfl
  | u :: us, ds, h => by obtain ⟨d, e, rfl, _, h2⟩ := h.cons_iff; simp [h2.length]
theorem reps.append : ∀ {us vs : List U} {ds es : List D}, reps r v us ds → reps r v vs es → reps r v (us ++ vs) (ds ++ es)
  | [], vs, ds, es, h, i => by rw [h.nil_iff]; exact i
  | u :: us, vs, ds, es, h, i => by obtain ⟨d, e, rfl, h1, h2⟩ := h.cons_iff; exact .cons h1 (h2.append i)
theorem reps.get : ∀ {us : List U} {ds : List D} {i : Nat} {u : U}, reps r v us ds → us[i]? = some u → ∃ d, ds[i]? = some d ∧ rep r v u d
  | [], ds, i, u, h, e => by simp at e
  | u0 :: us, ds, 0, u, h, e => by
    obtain ⟨d, x, rfl, h1, h2⟩ := h.cons_iff
    simp at e; subst e
    exact ⟨d, rfl, h1⟩
  | u0 :: us, ds, i + 1, u, h, e => by
    obtain ⟨d, x, rfl, h1, h2⟩ := h.cons_iff
    simpa using h2.get (i := i) (by simpa using e)
theorem reps.drop : ∀ {us : List U} {ds : List D} (n : Nat), reps r v us ds → reps r v (us.drop n) (ds.drop n)
  | us, ds, 0, h => by simpa using h
  | [], ds, n + 1, h => by rw [h.nil_iff]; simpa using reps.nil
  | u :: us, ds, n + 1, h => by obtain ⟨d, e, rfl, h1, h2⟩ := h.cons_iff; simpa using h2.drop n
theorem reps.take : ∀ {us : List U} {ds : List D} (n : Nat), reps r v us ds → reps r v (us.take n) (ds.take n)
  | us, ds, 0, h => by simpa using reps.nil
  | [], ds, n + 1, h => by rw [h.nil_iff]; simpa using reps.nil
  | u :: us, ds, n + 1, h => by obtain ⟨d, e, rfl, h1, h2⟩ := h.cons_iff; simpa using reps.cons h1 (h2.take n)
theorem reps.reverse : ∀ {us : List U} {ds : List D}, reps r v us ds → reps r v us.reverse ds.reverse
  | [], ds, h => by rw [h.nil_iff]; exact .nil
  | u :: us, ds, h => by
    obtain ⟨d, e, rfl, h1, h2⟩ := h.cons_iff
    simp only [List.reverse_cons]
    exact h2.reverse.append (.cons h1 .nil)
theorem rep_non {d : D} : rep r v .non d ↔ d = .non := by unfold rep; rfl
theorem rep_bl {d : D} {b : Bool} : rep r v (.bl b) d ↔ d = .bl b := by unfold rep; rfl
theorem rep_int {d : D} {i : Int} : rep r v (.int i) d ↔ d = .int i := by unfold rep; rfl
theorem rep_str {d : D} {x : Txt} : rep r v (.str x) d ↔ d = .str (r x) := by unfold rep; rfl
theorem rep_tup {d : D} {us : List U} : rep r v (.tup us) d ↔ ∃ ds, d = .tup ds ∧ reps r v us ds := by conv => lhs; unfold rep
theorem rep_lst {d : D} {us : List U} : rep r v (.lst us) d ↔ ∃ ds, latV v d = some ds ∧ reps r v us ds := by conv => lhs; unfold rep
theorem rep_dct {d : D} {ks : List Txt} {us : List U} : rep r v (.dct ks us) d ↔ ∃ kvs, datV v d = some kvs ∧ kvs.map (·.1) = ks.map r ∧ reps r v us (kvs.map (·.2)) := by conv => lhs; unfold rep
theorem rep_tdct {d : D} {ks us : List U} : rep r v (.tdct ks us) d ↔ ∃ kvs, tatV v d = some kvs ∧ reps r v ks (kvs.map (·.1)) ∧ reps r v us (kvs.map (·.2)) := by conv => lhs; unfold rep
end
/-- nothing is locked but these -/
def Nl (L : List Nat) (S : Store) : Prop := ∀ i o, S[i]? = some o → i ∉ L → unlO o = o
/-- the store grows -/
structure Gr (L : List Nat) (S S' : Store) : Prop where
  pre : S <+: S'
  nl : Nl L S → Nl L S'
section
variable {L : List Nat} {S S' S'' : Store} {H : List Nat}
theorem Gr.refl : Gr L S S := ⟨List.prefix_refl _, fun h => h⟩
theorem Gr.trans (a : Gr L S S') (b : Gr L S' S'') : Gr L S S'' := ⟨a.pre.trans b.pre, fun h => b.nl (a.nl h)⟩
theorem Gr.app (o : O) (h : unlO o = o) : Gr L S (S ++ [o]) := ⟨List.prefix_append _ _, fun nl i x e hi => by
  by_cases q : i < S.length
  · rw [List.getElem?_append_left q] at e
    exact nl i x e hi
  · rw [List.getElem?_append_right (by omega)] at e
    have : i - S.length = 0 := by
      have := (List.getElem?_eq_some_iff.mp e).1
      simp at this; omega
    rw [this] at e
    simp at e
    rw [← e]; exact h⟩
theorem Gr.le (g : Gr L S S') : S.length ≤ S'.length := g.pre.length_le
theorem Le.pre (x : S <+: S') : Le (vis H S) (vis H S') := fun i o e => by
  unfold vis at e ⊢
  split at e
  · cases e
  · rename_i q
    rw [if_neg q]
    cases z : S[i]? with
    | none => rw [z] at e; cases e
    | some y => rw [z] at e; rw [pre_get x z]; exact e
theorem Gr.vis (g : Gr L S S') : Le (vis H S) (vis H S') := .pre g.pre
theorem Le.sub {H' : List Nat} (h : ∀ i ∈ H', i ∈ H) : Le (vis H S) (vis H' S) := fun i o e => by
  unfold vis at e ⊢
  split at e
  · cases e
  · rename_i q
    rw [if_neg fun z => q (h i z)]
    exact e
theorem latV_vis {d : D} {ds : List D} (e : latV (vis H S) d = some ds) : ∃ n, d = .ref n ∧ S[n]? = some (.lst ds) ∧ n ∉ H := by
  unfold latV at e
  split at e
  · rename_i m
    unfold vis at e
    split at e
    · rename_i q
      split at q
      · cases q
      · rename_i hm
        cases e
        refine ⟨m, rfl, ?_, hm⟩
        cases z : S[m]? with
        | none => rw [z] at q; cases q
        | some o => rw [z] at q; cases o <;> simp [unlO] at q; rw [q]
    · cases e
  · cases e
theorem datV_vis {d : D} {ds : List (Txt × D)} (e : datV (vis H S) d = some ds) : ∃ n, d = .ref n ∧ (S[n]? = some (.dct ds) ∨ S[n]? = some (.ldct ds)) ∧ n ∉ H := by
  unfold datV at e
  split at e
  · rename_i m
    unfold vis at e
    split at e
    · rename_i q
      split at q
      · cases q
      · rename_i hm
        cases e
        refine ⟨m, rfl, ?_, hm⟩
        cases z : S[m]? with
        | none => rw [z] at q; cases q
        | some o =>
          rw [z] at q
          cases o <;> simp [unlO] at q
          · exact .inl (by rw [q])
          · exact .inr (by rw [q])
    · cases e
  · cases e
theorem datV_nl (nl : Nl [] S) {d : D} {ds : List (Txt × D)} (e : datV (vis H S) d = some ds) : ∃ n, d = .ref n ∧ S[n]? = some (.dct ds) ∧ n ∉ H := by
  obtain ⟨n, rfl, q | q, hn⟩ := datV_vis e
  · exact ⟨n, rfl, q, hn⟩
  · have := nl n _ q (by simp)
    simp [unlO] at this
theorem tatV_vis {d : D} {ds : List (D × D)} (e : tatV (vis H S) d = some ds) : ∃ n l, d = .ref n ∧ S[n]? = some (.tdct l ds) ∧ n ∉ H := by
  unfold tatV at e
  split at e
  · rename_i m
    unfold vis at e
    split at e
    · rename_i q
      split at q
      · cases q
      · rename_i hm
        cases e
        cases z : S[m]? with
        | none => rw [z] at q; cases q
        | some o =>
          rw [z] at q
          cases o <;> simp [unlO] at q
          obtain ⟨_, rfl⟩ := q
          exact ⟨m, _, rfl, z, hm⟩
    · cases e
  · cases e
theorem latV_of {n : Nat} {ds : List D} (e : S[n]? = some (.lst ds)) (h : n ∉ H) : latV (vis H S) (.ref n) = some ds := by simp [latV, vis, h, e, unlO]
theorem datV_of {n : Nat} {ds : List (Txt × D)} (e : S[n]? = some (.dct ds) ∨ S[n]? = some (.ldct ds)) (h : n ∉ H) : datV (vis H S) (.ref n) = some ds := by
  rcases e with e | e <;> simp [datV, vis, h, e, unlO]
theorem tatV_of {n : Nat} {l : Bool} {ds : List (D × D)} (e : S[n]? = some (.tdct l ds)) (h : n ∉ H) : tatV (vis H S) (.ref n) = some ds := by simp [tatV, vis, h, e, unlO]
end
section
variable (r : Txt → Txt)
/-- held, the top may be hidden -/
def rep1 (H : List Nat) (S : Store) : U → D → Prop
  | .lst us, d => ∃ ds, latV (vis [] S) d = some ds ∧ reps r (vis H S) us ds
  | .dct ks us, d => ∃ kvs, datV (vis [] S) d = some kvs ∧ kvs.map (·.1) = ks.map r ∧ reps r (vis H S) us (kvs.map (·.2))
  | .tdct ks us, d => ∃ kvs, tatV (vis [] S) d = some kvs ∧ reps r (vis H S) ks (kvs.map (·.1)) ∧ reps r (vis H S) us (kvs.map (·.2))
  | u, d => rep r (vis H S) u d
/-- a variable's own object -/
def orep (H : List Nat) (S : Store) : U → Nat → Prop
  | .lst us, m => ∃ ds, S[m]? = some (.lst ds) ∧ reps r (vis H S) us ds
  | .dct ks us, m => ∃ kvs, S[m]? = some (.dct kvs) ∧ kvs.map (·.1) = ks.map r ∧ reps r (vis H S) us (kvs.map (·.2))
  | _, _ => False
end
section
variable {r : Txt → Txt} {H : List Nat} {S S' : Store}
theorem rep.one {u : U} {d : D} (h : rep r (vis H S) u d) : rep1 r H S u d := by
  have s : Le (vis H S) (vis [] S) := .sub (by simp)
  cases u with
  | lst us => obtain ⟨ds, e1, e2⟩ := rep_lst.mp h; exact ⟨ds, latV_mono s e1, e2⟩
  | dct ks us => obtain ⟨ds, e1, e2⟩ := rep_dct.mp h; exact ⟨ds, datV_mono s e1, e2⟩
  | tdct ks us => obtain ⟨ds, e1, e2⟩ := rep_tdct.mp h; exact ⟨ds, tatV_mono s e1, e2⟩
  | _ => exact h
theorem rep1.pre {u : U} {d : D} (h : rep1 r H S u d) (x : S <+: S') : rep1 r H S' u d := by
  cases u with
  | lst us => obtain ⟨ds, e1, e2⟩ := h; exact ⟨ds, latV_mono (.pre x) e1, e2.mono (.pre x)⟩
  | dct ks us => obtain ⟨ds, e1, e2, e3⟩ := h; exact ⟨ds, datV_mono (.pre x) e1, e2, e3.mono (.pre x)⟩
  | tdct ks us => obtain ⟨ds, e1, e2, e3⟩ := h; exact ⟨ds, tatV_mono (.pre x) e1, e2.mono (.pre x), e3.mono (.pre x)⟩
  | non => exact rep.mono (.pre x) _ h
  | bl b => exact rep.mono (.pre x) _ h
  | int i => exact rep.mono (.pre x) _ h
  | str s => exact rep.mono (.pre x) _ h
  | tup us => exact rep.mono (.pre x) _ h
theorem orep.one {u : U} {m : Nat} (h : orep r H S u m) : rep1 r H S u (.ref m) := by
  cases u with
  | lst us => obtain ⟨ds, e1, e2⟩ := h; exact ⟨ds, latV_of e1 (by simp), e2⟩
  | dct ks us => obtain ⟨ds, e1, e2⟩ := h; exact ⟨ds, datV_of (.inl e1) (by simp), e2⟩
  | _ => exact h.elim
theorem orep.pre {u : U} {m : Nat} (h : orep r H S u m) (x : S <+: S') : orep r H S' u m := by
  cases u with
  | lst us => obtain ⟨ds, e1, e2⟩ := h; exact ⟨ds, pre_get x e1, e2.mono (.pre x)⟩
  | dct ks us => obtain ⟨ds, e1, e2, e3⟩ := h; exact ⟨ds, pre_get x e1, e2, e3.mono (.pre x)⟩
  | _ => exact h.elim
theorem orep.mono {H' : List Nat} {u : U} {m : Nat} (h : orep r H S u m) (e : S'[m]? = S[m]?) (x : Le (vis H S) (vis H' S')) : orep r H' S' u m := by
  cases u with
  | lst us => obtain ⟨ds, e1, e2⟩ := h; exact ⟨ds, e.trans e1, e2.mono x⟩
  | dct ks us => obtain ⟨ds, e1, e2, e3⟩ := h; exact ⟨ds, e.trans e1, e2, e3.mono x⟩
  | _ => exact h.elim
/-- hidden no longer -/
theorem orep.rep {u : U} {m : Nat} {H' : List Nat} (h : orep r H S u m) (hm : m ∉ H') (x : Le (vis H S) (vis H' S)) : rep r (vis H' S) u (.ref m) := by
  cases u with
  | lst us => obtain ⟨ds, e1, e2⟩ := h; exact rep_lst.mpr ⟨ds, latV_of e1 hm, e2.mono x⟩
  | dct ks us => obtain ⟨ds, e1, e2, e3⟩ := h; exact rep_dct.mpr ⟨ds, datV_of (.inl e1) hm, e2, e3.mono x⟩
  | _ => exact h.elim
end
/-- what is around: the locked ones, the hidden ones, the variables with objects of their own -/
structure Cv where
  L : List Nat
  h : List Nat
  M : List (Nat × Nat)
def Cv.ms (c : Cv) : List Nat := c.M.map (·.2)
def Cv.H (c : Cv) : List Nat := c.h ++ c.ms
structure Iv (r : Txt → Txt) (b : Bool) (own : List Nat) (c : Cv) (ρ : Env) (S : Store) (σ : VEnv) : Prop where
  lk : b = true → c.L = []
  ow : ∀ i, i ∈ c.M.map (·.1) ↔ i ∈ own
  nl : Nl c.L S
  hb : ∀ m ∈ c.H, m < S.length
  nd : c.ms.Nodup
  dj : ∀ m ∈ c.ms, m ∉ c.h
  len : ρ.length = σ.length
  pl : ∀ i u, σ[i]? = some (some u) → i ∉ own → ∃ d, ρ[i]? = some (some d) ∧ rep r (vis c.H S) u d
  mo : ∀ i m, (i, m) ∈ c.M → ∃ u, σ[i]? = some (some u) ∧ ρ[i]? = some (some (.ref m)) ∧ orep r c.H S u m
section
variable {r : Txt → Txt} {b : Bool} {own : List Nat} {c : Cv} {ρ : Env} {S S' : Store} {σ : VEnv}
theorem Iv.grow (I : Iv r b own c ρ S σ) (g : Gr c.L S S') : Iv r b own c ρ S' σ where
  lk := I.lk
  ow := I.ow
  nl := g.nl I.nl
  hb := fun m hm => Nat.lt_of_lt_of_le (I.hb m hm) g.le
  nd := I.nd
  dj := I.dj
  len := I.len
  pl := fun i u e n => by
    obtain ⟨d, e1, e2⟩ := I.pl i u e n
    exact ⟨d, e1, e2.mono g.vis⟩
  mo := fun i m hm => by
    obtain ⟨u, e1, e2, e3⟩ := I.mo i m hm
    exact ⟨u, e1, e2, e3.pre g.pre⟩
theorem Iv.set (I : Iv r b own c ρ S σ) {i : Nat} (hi : i ∉ own) {u : U} {d : D} (h : rep r (vis c.H S) u d) : Iv r b own c (ρ.set i (some d)) S (σ.set i (some u)) where
  lk := I.lk
  ow := I.ow
  nl := I.nl
  hb := I.hb
  nd := I.nd
  dj := I.dj
  len := by simp [I.len]
  pl := fun j u' e n => by
    by_cases q : i = j
    · subst q
      by_cases l : i < σ.length
      · rw [List.getElem?_set_self l] at e
        cases e
        exact ⟨d, List.getElem?_set_self (I.len ▸ l), h⟩
      · rw [List.getElem?_eq_none (by simp; omega)] at e
        cases e
    · rw [List.getElem?_set_ne q] at e
      obtain ⟨d', e1, e2⟩ := I.pl j u' e n
      exact ⟨d', by rw [List.getElem?_set_ne q]; exact e1, e2⟩
  mo := fun j m hm => by
    have q : i ≠ j := fun z => hi ((I.ow i).mp (by rw [z]; exact List.mem_map.mpr ⟨_, hm, rfl⟩))
    obtain ⟨u', e1, e2, e3⟩ := I.mo j m hm
    exact ⟨u', by rw [List.getElem?_set_ne q]; exact e1, by rw [List.getElem?_set_ne q]; exact e2, e3⟩
theorem Iv.setNone (I : Iv r b own c ρ S σ) {i : Nat} (hi : i ∉ own) : Iv r b own c (ρ.set i none) S (σ.set i none) where
  lk := I.lk
  ow := I.ow
  nl := I.nl
  hb := I.hb
  nd := I.nd
  dj := I.dj
  len := by simp [I.len]
  pl := fun j u' e n => by
    by_cases q : i = j
    · subst q
      by_cases l : i < σ.length
      · rw [List.getElem?_set_self l] at e
        cases e
      · rw [List.getElem?_eq_none (by simp; omega)] at e
        cases e
    · rw [List.getElem?_set_ne q] at e
      obtain ⟨d', e1, e2⟩ := I.pl j u' e n
      exact ⟨d', by rw [List.getElem?_set_ne q]; exact e1, e2⟩
  mo := fun j m hm => by
    have q : i ≠ j := fun z => hi ((I.ow i).mp (by rw [z]; exact List.mem_map.mpr ⟨_, hm, rfl⟩))
    obtain ⟨u', e1, e2, e3⟩ := I.mo j m hm
    exact ⟨u', by rw [List.getElem?_set_ne q]; exact e1, by rw [List.getElem?_set_ne q]; exact e2, e3⟩
def wipeV (σ : VEnv) : List Nat → VEnv
  | [] => σ
  | v :: vs => (wipeV σ vs).set v none
theorem Iv.wipe (I : Iv r b own c ρ S σ) : ∀ {vs : List Nat}, (∀ i ∈ vs, i ∉ own) → Iv r b own c (wipeE ρ vs) S (wipeV σ vs)
  | [], _ => I
  | v :: vs, h => (I.wipe fun i hi => h i (List.mem_cons_of_mem _ hi)).setNone (h v List.mem_cons_self)
/-- a hidden object more -/
theorem Iv.hide (I : Iv r b own c ρ S σ) {o : O} (ho : unlO o = o) : Iv r b own ⟨c.L, S.length :: c.h, c.M⟩ ρ (S ++ [o]) σ := by
  have J := I.grow (Gr.app (L := c.L) o ho)
  have x : Le (vis c.H S) (vis (Cv.H ⟨c.L, S.length :: c.h, c.M⟩) (S ++ [o])) := fun i y e => by
    have hi : i < S.length := by
      unfold vis at e
      split at e
      · cases e
      · cases z : S[i]? with
        | none => rw [z] at e; cases e
        | some y => exact (List.getElem?_eq_some_iff.mp z).1
    have e' := Le.pre (H := c.H) (List.prefix_append S [o]) i y e
    unfold vis at e' ⊢
    split at e'
    · cases e'
    · rename_i q
      have : i ∉ (Cv.H ⟨c.L, S.length :: c.h, c.M⟩) := by
        intro z
        unfold Cv.H at z
        rcases List.mem_append.mp z with z | z
        · rcases List.mem_cons.mp z with z | z
          · omega
          · exact q (List.mem_append_left _ z)
        · exact q (List.mem_append_right _ z)
      rw [if_neg this]
      exact e'
  refine ⟨I.lk, I.ow, J.nl, ?_, I.nd, ?_, I.len, ?_, ?_⟩
  · intro m hm
    unfold Cv.H at hm
    simp at hm ⊢
    rcases hm with rfl | hm
    · omega
    · have := I.hb m (by unfold Cv.H; simpa [Cv.ms] using hm)
      omega
  · intro m hm
    have := I.dj m hm
    have l := I.hb m (by unfold Cv.H; exact List.mem_append_right _ hm)
    simp
    exact ⟨by omega, this⟩
  · intro i u e n
    obtain ⟨d, e1, e2⟩ := I.pl i u e n
    exact ⟨d, e1, e2.mono x⟩
  · intro i m hm
    obtain ⟨u, e1, e2, e3⟩ := I.mo i m hm
    have l := I.hb m (by unfold Cv.H; exact List.mem_append_right _ (List.mem_map.mpr ⟨_, hm, rfl⟩))
    exact ⟨u, e1, e2, e3.mono (by rw [List.getElem?_append_left l]) x⟩
theorem vis_set {H : List Nat} {S : Store} {n : Nat} {o : O} (h : n ∈ H) : vis H (S.set n o) = vis H S := by
  funext i
  unfold vis
  split
  · rfl
  · rename_i q
    have : n ≠ i := fun z => q (z ▸ h)
    rw [List.getElem?_set_ne this]
theorem Nl.set {L : List Nat} {S : Store} {n : Nat} {o : O} (h : Nl L S) (ho : unlO o = o) : Nl L (S.set n o) := fun i x e hi => by
  by_cases q : n = i
  · subst q
    by_cases l : n < S.length
    · rw [List.getElem?_set_self l] at e
      cases e; exact ho
    · rw [List.getElem?_eq_none (by simp; omega)] at e
      cases e
  · rw [List.getElem?_set_ne q] at e
    exact h i x e hi
/-- a hidden object changes -/
theorem Iv.put (I : Iv r b own c ρ S σ) {n : Nat} (hn : n ∈ c.h) {o : O} (ho : unlO o = o) : Iv r b own c ρ (S.set n o) σ := by
  have hH : n ∈ c.H := by unfold Cv.H; exact List.mem_append_left _ hn
  refine ⟨I.lk, I.ow, I.nl.set ho, fun m hm => by simpa using I.hb m hm, I.nd, I.dj, I.len, ?_, ?_⟩
  · intro i u e q
    rw [vis_set hH]
    exact I.pl i u e q
  · intro i m hm
    obtain ⟨u, e1, e2, e3⟩ := I.mo i m hm
    have : n ≠ m := fun z => I.dj m (List.mem_map.mpr ⟨_, hm, rfl⟩) (z ▸ hn)
    exact ⟨u, e1, e2, e3.mono (List.getElem?_set_ne this) (by rw [vis_set hH]; exact fun _ _ e => e)⟩
end
end Al

set_option Elab.async false
set_option linter.all false
set_option maxRecDepth 100000
set_option maxHeartbeats 1000000
/-! Vs: expressions. -/
namespace Al
abbrev VF := VEnv → Option U
abbrev VT := VEnv → Option Bool
abbrev VA := VEnv → Option (List U)
def all2 (R : U → D → Prop) : List U → List D → Prop
  | [], ds => ds = []
  | u :: us, ds => ∃ d e, ds = d :: e ∧ R u d ∧ all2 R us e
def SrcV (r : Txt → Txt) (H : List Nat) (S : Store) (us : List U) (src : Src) : Prop :=
  ∃ ds, reps r (vis H S) us ds ∧ ds.length < src.fuel ∧ ∀ S'' i, Le (vis H S) (vis H S'') → i ≤ ds.length → src.nxt i S'' = nxL ds i
section
variable (r : Txt → Txt) (b : Bool) (own : List Nat)
def SP (E : EF) (V : VF) : Prop := ∀ c ρ S σ u, Iv r b own c ρ S σ → V σ = some u → ∃ d S', E ρ S = .ok d S' ∧ Gr c.L S S' ∧ rep r (vis c.H S') u d
def SL (E : EF) (V : VF) : Prop := ∀ c ρ S σ u, Iv r b own c ρ S σ → V σ = some u → ∃ d S', E ρ S = .ok d S' ∧ Gr c.L S S' ∧ rep1 r c.H S' u d
def STt (T : TF) (V : VT) : Prop := ∀ c ρ S σ t, Iv r b own c ρ S σ → V σ = some t → ∃ S', T ρ S = .ok t S' ∧ Gr c.L S S'
def SA (A : AF) (V : VA) : Prop := ∀ c ρ S σ us, Iv r b own c ρ S σ → V σ = some us → ∃ ds S', A ρ S = .ok ds S' ∧ Gr c.L S S' ∧ reps r (vis c.H S') us ds
def SAl (A : AF) (V : VA) : Prop := ∀ c ρ S σ us, Iv r b own c ρ S σ → V σ = some us → ∃ ds S', A ρ S = .ok ds S' ∧ Gr c.L S S' ∧ all2 (rep1 r c.H S') us ds
def SO (P : PF) (V : VEnv → Option (Option Int)) : Prop := ∀ c ρ S σ o, Iv r b own c ρ S σ → V σ = some o → ∃ S', P ρ S = .ok o S' ∧ Gr c.L S S'
def SI (I : IF) (V : VA) : Prop := ∀ c ρ S σ us, Iv r b own c ρ S σ → V σ = some us → ∃ src S', I ρ S = .ok src S' ∧ Gr c.L S S' ∧ SrcV r c.H S' us src
/-- an operation -/
def OpV (f : F2) (g : U → U → Option U) : Prop := ∀ (L H : List Nat) (S : Store) (x y u : U) (a c : D), (b = true → L = []) → Nl L S → (∀ m ∈ H, m < S.length) → rep1 r H S x a → rep1 r H S y c → g x y = some u → ∃ d S', f a c S = some (d, S') ∧ Gr L S S' ∧ rep r (vis H S') u d
def CallV (f : FN) (g : List U → Option U) : Prop := ∀ (L H : List Nat) (S : Store) (xs : List U) (u : U) (as : List D), (b = true → L = []) → Nl L S → (∀ m ∈ H, m < S.length) → all2 (rep1 r H S) xs as → g xs = some u → ∃ d S', f as S = some (d, S') ∧ Gr L S S' ∧ rep r (vis H S') u d
/-- a def without traces -/
def Pu (C : CF) (V : List U → Option U) : Prop := ∀ (L h : List Nat) (S : Store) (us : List U) (ds : List D) (u : U), (b = true → L = []) → Nl L S → (∀ m ∈ h, m < S.length) → reps r (vis h S) us ds → V us = some u → ∃ d S', C ds S = .ok d S' ∧ Gr L S S' ∧ rep r (vis h S') u d
end
theorem Pu.weaken {r : Txt → Txt} {b : Bool} {C : CF} {V : List U → Option U} (h : Pu r false C V) : Pu r b C V := fun L H S us ds u _ nl hb e1 e2 => h L H S us ds u (fun z => nomatch z) nl hb e1 e2
/-! ### what is computed -/
def vVar (i : Nat) : VF := fun σ => match σ[i]? with
  | some (some u) => some u
  | _ => none
mutual
/-- immutable, without renamed texts -/
def U.cst (s : Sy) : U → Bool
  | .str x => s.free x
  | .tup us => U.csts s us
  | .lst _ => false
  | .dct _ _ => false
  | .tdct _ _ => false
  | _ => true
def U.csts (s : Sy) : List U → Bool
  | [] => true
  | u :: us => u.cst s && U.csts s us
end
mutual
def U.toD : U → D
  | .non => .non
  | .bl b => .bl b
  | .int i => .int i
  | .str x => .str x
  | .tup us => .tup (U.toDs us)
  | _ => .non
def U.toDs : List U → List D
  | [] => []
  | u :: us => u.toD :: U.toDs us
end
def vC (s : Sy) (u : U) : VF := fun _ => if u.cst s then some u else none
def vOp (g : U → U → Option U) (a b : VF) : VF := fun σ => (a σ).bind fun x => (b σ).bind fun y => g x y
def vAsB : U → Option Bool
  | .bl b => some b
  | _ => none
def vT (a : VF) : VT := fun σ => (a σ).bind vAsB
def vTAnd (t u : VT) : VT := fun σ => (t σ).bind fun b => if b = true then u σ else some false
def vTOr (t u : VT) : VT := fun σ => (t σ).bind fun b => if b = true then some true else u σ
def vTNot (t : VT) : VT := fun σ => (t σ).bind fun b => some (!b)
def vAnd (a b : VF) : VF := fun σ => (a σ).bind fun x => match x with
  | .bl true => b σ
  | .bl false => some (.bl false)
  | _ => none
def vOr (a b : VF) : VF := fun σ => (a σ).bind fun x => match x with
  | .bl true => some (.bl true)
  | .bl false => b σ
  | _ => none
def vNot (a : VF) : VF := fun σ => (a σ).bind fun x => match x with
  | .bl k => some (.bl (!k))
  | _ => none
def vNeg (a : VF) : VF := fun σ => (a σ).bind fun x => match x with
  | .int k => some (.int (-k))
  | _ => none
def vIf (t : VT) (a b : VF) : VF := fun σ => (t σ).bind fun c => if c = true then a σ else b σ
def vChain (f g : U → U → Option U) (a b c : VF) : VF := fun σ => (a σ).bind fun x => (b σ).bind fun y => (f x y).bind fun z => match z with
  | .bl true => (c σ).bind fun w => g y w
  | .bl false => some (.bl false)
  | _ => none
def vNil : VA := fun _ => some []
def vCons (a : VF) (l : VA) : VA := fun σ => (a σ).bind fun x => (l σ).bind fun xs => some (x :: xs)
def vTup (l : VA) : VF := fun σ => (l σ).bind fun xs => if xs.length ≤ lim then some (.tup xs) else none
def vLst (l : VA) : VF := fun σ => (l σ).bind fun xs => if xs.length ≤ lim then some (.lst xs) else none
def vCall (g : List U → Option U) (l : VA) : VF := fun σ => (l σ).bind g
def vCallD (V : List U → Option U) (l : VA) : VF := fun σ => (l σ).bind V
def vpNone : VEnv → Option (Option Int) := fun _ => some none
def vpSome (a : VF) : VEnv → Option (Option Int) := fun σ => (a σ).bind fun x => match x with
  | .int i => some (some i)
  | _ => none
section
variable {s : Sy} {r : Txt → Txt} {b : Bool} {own : List Nat}
theorem r1_non {H : List Nat} {S : Store} {d : D} (h : rep1 r H S .non d) : d = .non := rep_non.mp (show rep r (vis H S) .non d from h)
theorem r1_bl {H : List Nat} {S : Store} {d : D} {k : Bool} (h : rep1 r H S (.bl k) d) : d = .bl k := rep_bl.mp (show rep r (vis H S) (.bl k) d from h)
theorem r1_int {H : List Nat} {S : Store} {d : D} {k : Int} (h : rep1 r H S (.int k) d) : d = .int k := rep_int.mp (show rep r (vis H S) (.int k) d from h)
theorem r1_str {H : List Nat} {S : Store} {d : D} {k : Txt} (h : rep1 r H S (.str k) d) : d = .str (r k) := rep_str.mp (show rep r (vis H S) (.str k) d from h)
theorem r1_tup {H : List Nat} {S : Store} {d : D} {us : List U} (h : rep1 r H S (.tup us) d) : ∃ ds, d = .tup ds ∧ reps r (vis H S) us ds := rep_tup.mp (show rep r (vis H S) (.tup us) d from h)
theorem r1_lst {H : List Nat} {S : Store} {d : D} {us : List U} (h : rep1 r H S (.lst us) d) : ∃ n ds, d = .ref n ∧ S[n]? = some (.lst ds) ∧ reps r (vis H S) us ds := by
  obtain ⟨ds, e1, e2⟩ := h
  obtain ⟨n, rfl, e3, _⟩ := latV_vis e1
  exact ⟨n, ds, rfl, e3, e2⟩
theorem r1_dct {H : List Nat} {S : Store} {d : D} {ks : List Txt} {us : List U} (h : rep1 r H S (.dct ks us) d) : ∃ n kvs, d = .ref n ∧ (S[n]? = some (.dct kvs) ∨ S[n]? = some (.ldct kvs)) ∧ kvs.map (·.1) = ks.map r ∧ reps r (vis H S) us (kvs.map (·.2)) := by
  obtain ⟨ds, e1, e2⟩ := h
  obtain ⟨n, rfl, e3, _⟩ := datV_vis e1
  exact ⟨n, ds, rfl, e3, e2⟩
theorem r1_tdct {H : List Nat} {S : Store} {d : D} {ks us : List U} (h : rep1 r H S (.tdct ks us) d) : ∃ n l kvs, d = .ref n ∧ S[n]? = some (.tdct l kvs) ∧ reps r (vis H S) ks (kvs.map (·.1)) ∧ reps r (vis H S) us (kvs.map (·.2)) := by
  obtain ⟨ds, e1, e2⟩ := h
  obtain ⟨n, l, rfl, e3, _⟩ := tatV_vis e1
  exact ⟨n, l, ds, rfl, e3, e2⟩
theorem SP.l {E : EF} {V : VF} (h : SP r b own E V) : SL r b own E V := fun c ρ S σ u I e => by
  obtain ⟨d, S', e1, e2, e3⟩ := h c ρ S σ u I e
  exact ⟨d, S', e1, e2, e3.one⟩
theorem SA.l {A : AF} {V : VA} (h : SA r b own A V) : SAl r b own A V := fun c ρ S σ u I e => by
  obtain ⟨d, S', e1, e2, e3⟩ := h c ρ S σ u I e
  refine ⟨d, S', e1, e2, ?_⟩
  have key : ∀ (us : List U) (ds : List D), reps r (vis c.H S') us ds → all2 (rep1 r c.H S') us ds := by
    intro us
    induction us with
    | nil => intro ds h; exact h.nil_iff
    | cons u us ih => intro ds h; obtain ⟨d, e, rfl, h1, h2⟩ := h.cons_iff; exact ⟨d, e, rfl, h1.one, ih e h2⟩
  exact key _ _ e3
theorem ev_of {ρ : Env} {S : Store} {i : Nat} {d : D} (e : ρ[i]? = some (some d)) : eVar i ρ S = .ok d S := by simp [eVar, e]
theorem vVar_of {σ : VEnv} {i : Nat} {u : U} (e : vVar i σ = some u) : σ[i]? = some (some u) := by
  unfold vVar at e
  split at e
  · cases e; assumption
  · cases e
theorem sp_var (i : Nat) (hi : i ∉ own) : SP r b own (eVar i) (vVar i) := fun c ρ S σ u I e => by
  obtain ⟨d, e1, e2⟩ := I.pl i u (vVar_of e) hi
  exact ⟨d, S, ev_of e1, .refl, e2⟩
theorem sl_var (i : Nat) : SL r b own (eVar i) (vVar i) := fun c ρ S σ u I e => by
  by_cases hi : i ∈ own
  · obtain ⟨⟨j, m⟩, h1, rfl⟩ := List.mem_map.mp ((I.ow i).mpr hi)
    obtain ⟨u', e1, e2, e3⟩ := I.mo j m h1
    have := vVar_of e
    rw [e1] at this
    cases this
    exact ⟨_, S, ev_of e2, .refl, e3.one⟩
  · exact (sp_var i hi).l c ρ S σ u I e
mutual
theorem cst_rep (R : Rn s r) {v : View} : ∀ u : U, u.cst s = true → rep r v u u.toD
  | .non, _ => by unfold rep U.toD; rfl
  | .bl _, _ => by unfold rep U.toD; rfl
  | .int _, _ => by unfold rep U.toD; rfl
  | .str x, h => by unfold U.cst at h; unfold rep U.toD; rw [R.fix x h]
  | .tup us, h => by unfold U.cst at h; unfold rep U.toD; exact ⟨_, rfl, csts_rep R us h⟩
  | .lst _, h => by unfold U.cst at h; cases h
  | .dct _ _, h => by unfold U.cst at h; cases h
  | .tdct _ _, h => by unfold U.cst at h; cases h
theorem csts_rep (R : Rn s r) {v : View} : ∀ us : List U, U.csts s us = true → reps r v us (U.toDs us)
  | [], _ => by unfold U.toDs; exact .nil
  | u :: us, h => by
    unfold U.csts at h
    unfold U.toDs
    rw [Bool.and_eq_true] at h
    exact .cons (cst_rep R u h.1) (csts_rep R us h.2)
end
theorem sp_c (R : Rn s r) {d : D} {u : U} (hd : d = u.toD) : SP r b own (eC d) (vC s u) := fun c ρ S σ u' I e => by
  unfold vC at e
  split at e
  · rename_i q
    cases e
    exact ⟨d, S, rfl, .refl, hd ▸ cst_rep R u q⟩
  · cases e
theorem bnd {α β : Type} {x : Option α} {f : α → Option β} {y : β} (h : x.bind f = some y) : ∃ a, x = some a ∧ f a = some y := Option.bind_eq_some_iff.mp h
theorem sp_op {f : F2} {g : U → U → Option U} {ea ec : EF} {va vc : VF} (hf : OpV r b f g) (ha : SL r b own ea va) (hc : SL r b own ec vc) : SP r b own (eOp f ea ec) (vOp g va vc) := fun c ρ S σ u I e => by
  obtain ⟨x, e1, e⟩ := bnd e
  obtain ⟨y, e2, e⟩ := bnd e
  obtain ⟨d1, S1, a1, a2, a3⟩ := ha c ρ S σ x I e1
  have I1 := I.grow a2
  obtain ⟨d2, S2, c1, c2, c3⟩ := hc c ρ S1 σ y I1 e2
  have I2 := I1.grow c2
  obtain ⟨d, S3, f1, f2, f3⟩ := hf c.L c.H S2 x y u d1 d2 I2.lk I2.nl I2.hb (a3.pre c2.pre) c3 e
  exact ⟨d, S3, by simp [eOp, a1, c1, f1, Res.of], (a2.trans c2).trans f2, f3⟩
theorem st_of {E : EF} {V : VF} (h : SL r b own E V) : STt r b own (tOf E) (vT V) := fun c ρ S σ t I e => by
  obtain ⟨x, e1, e⟩ := bnd e
  obtain ⟨d, S1, a1, a2, a3⟩ := h c ρ S σ x I e1
  cases x <;> simp [vAsB] at e
  subst e
  obtain rfl := r1_bl a3
  exact ⟨S1, by simp [tOf, a1, asB], a2⟩
theorem st_yes : STt r b own tYesF (fun _ => some true) := fun c ρ S σ t I e => by cases e; exact ⟨S, rfl, .refl⟩
theorem st_and {t u : TF} {vt vu : VT} (ht : STt r b own t vt) (hu : STt r b own u vu) : STt r b own (tAndF t u) (vTAnd vt vu) := fun c ρ S σ k I e => by
  obtain ⟨x, e1, e⟩ := bnd e
  obtain ⟨S1, a1, a2⟩ := ht c ρ S σ x I e1
  cases x
  · simp at e; subst e; exact ⟨S1, by simp [tAndF, a1], a2⟩
  · simp at e
    obtain ⟨S2, c1, c2⟩ := hu c ρ S1 σ k (I.grow a2) e
    exact ⟨S2, by simp [tAndF, a1, c1], a2.trans c2⟩
theorem st_or {t u : TF} {vt vu : VT} (ht : STt r b own t vt) (hu : STt r b own u vu) : STt r b own (tOrF t u) (vTOr vt vu) := fun c ρ S σ k I e => by
  obtain ⟨x, e1, e⟩ := bnd e
  obtain ⟨S1, a1, a2⟩ := ht c ρ S σ x I e1
  cases x
  · simp at e
    obtain ⟨S2, c1, c2⟩ := hu c ρ S1 σ k (I.grow a2) e
    exact ⟨S2, by simp [tOrF, a1, c1], a2.trans c2⟩
  · simp at e; subst e; exact ⟨S1, by simp [tOrF, a1], a2⟩
theorem st_not {t : TF} {vt : VT} (ht : STt r b own t vt) : STt r b own (tNotF t) (vTNot vt) := fun c ρ S σ k I e => by
  obtain ⟨x, e1, e⟩ := bnd e
  obtain ⟨S1, a1, a2⟩ := ht c ρ S σ x I e1
  cases e
  exact ⟨S1, by simp [tNotF, a1], a2⟩
theorem sp_and {ea eb : EF} {va vb : VF} (ha : SP r b own ea va) (hb : SP r b own eb vb) : SP r b own (eAnd ea eb) (vAnd va vb) := fun c ρ S σ u I e => by
  obtain ⟨x, e1, e⟩ := bnd e
  obtain ⟨d1, S1, a1, a2, a3⟩ := ha c ρ S σ x I e1
  split at e
  · obtain rfl := rep_bl.mp a3
    obtain ⟨d2, S2, c1, c2, c3⟩ := hb c ρ S1 σ u (I.grow a2) e
    exact ⟨d2, S2, by simp [eAnd, a1, c1], a2.trans c2, c3⟩
  · obtain rfl := rep_bl.mp a3
    cases e
    exact ⟨_, S1, by simp [eAnd, a1], a2, rep_bl.mpr rfl⟩
  · cases e
theorem sp_or {ea eb : EF} {va vb : VF} (ha : SP r b own ea va) (hb : SP r b own eb vb) : SP r b own (eOr ea eb) (vOr va vb) := fun c ρ S σ u I e => by
  obtain ⟨x, e1, e⟩ := bnd e
  obtain ⟨d1, S1, a1, a2, a3⟩ := ha c ρ S σ x I e1
  split at e
  · obtain rfl := rep_bl.mp a3
    cases e
    exact ⟨_, S1, by simp [eOr, a1], a2, rep_bl.mpr rfl⟩
  · obtain rfl := rep_bl.mp a3
    obtain ⟨d2, S2, c1, c2, c3⟩ := hb c ρ S1 σ u (I.grow a2) e
    exact ⟨d2, S2, by simp [eOr, a1, c1], a2.trans c2, c3⟩
  · cases e
theorem sp_not {ea : EF} {va : VF} (ha : SP r b own ea va) : SP r b own (eNot ea) (vNot va) := fun c ρ S σ u I e => by
  obtain ⟨x, e1, e⟩ := bnd e
  obtain ⟨d1, S1, a1, a2, a3⟩ := ha c ρ S σ x I e1
  split at e
  · obtain rfl := rep_bl.mp a3
    cases e
    exact ⟨_, S1, by simp [eNot, a1], a2, rep_bl.mpr rfl⟩
  · cases e
theorem sp_neg {ea : EF} {va : VF} (ha : SP r b own ea va) : SP r b own (eNeg ea) (vNeg va) := fun c ρ S σ u I e => by
  obtain ⟨x, e1, e⟩ := bnd e
  obtain ⟨d1, S1, a1, a2, a3⟩ := ha c ρ S σ x I e1
  split at e
  · obtain rfl := rep_int.mp a3
    cases e
    exact ⟨_, S1, by simp [eNeg, a1], a2, rep_int.mpr rfl⟩
  · cases e
theorem sp_if {t : TF} {ea eb : EF} {vt : VT} {va vb : VF} (ht : STt r b own t vt) (ha : SP r b own ea va) (hb : SP r b own eb vb) : SP r b own (eIf t ea eb) (vIf vt va vb) := fun c ρ S σ u I e => by
  obtain ⟨x, e1, e⟩ := bnd e
  obtain ⟨S1, a1, a2⟩ := ht c ρ S σ x I e1
  cases x
  · simp at e
    obtain ⟨d2, S2, c1, c2, c3⟩ := hb c ρ S1 σ u (I.grow a2) e
    exact ⟨d2, S2, by simp [eIf, a1, c1], a2.trans c2, c3⟩
  · simp at e
    obtain ⟨d2, S2, c1, c2, c3⟩ := ha c ρ S1 σ u (I.grow a2) e
    exact ⟨d2, S2, by simp [eIf, a1, c1], a2.trans c2, c3⟩
theorem sp_chain {f f' : F2} {g g' : U → U → Option U} {ea eb ec : EF} {va vb vc : VF} (hf : OpV r b f g) (hf' : OpV r b f' g') (ha : SL r b own ea va) (hb : SL r b own eb vb) (hc : SL r b own ec vc) : SP r b own (eChain f f' ea eb ec) (vChain g g' va vb vc) := fun c ρ S σ u I e => by
  obtain ⟨x, e1, e⟩ := bnd e
  obtain ⟨y, e2, e⟩ := bnd e
  obtain ⟨z, e3, e⟩ := bnd e
  obtain ⟨d1, S1, a1, a2, a3⟩ := ha c ρ S σ x I e1
  have I1 := I.grow a2
  obtain ⟨d2, S2, c1, c2, c3⟩ := hb c ρ S1 σ y I1 e2
  have I2 := I1.grow c2
  obtain ⟨d, S3, f1, f2, f3⟩ := hf c.L c.H S2 x y z d1 d2 I2.lk I2.nl I2.hb (a3.pre c2.pre) c3 e3
  have I3 := I2.grow f2
  split at e
  · obtain rfl := rep_bl.mp f3
    obtain ⟨w, e4, e⟩ := bnd e
    obtain ⟨d4, S4, g1, g2, g3⟩ := hc c ρ S3 σ w I3 e4
    have I4 := I3.grow g2
    obtain ⟨d5, S5, k1, k2, k3⟩ := hf' c.L c.H S4 y w u d2 d4 I4.lk I4.nl I4.hb (c3.pre (f2.pre.trans g2.pre)) g3 e
    exact ⟨d5, S5, by simp [eChain, a1, c1, f1, g1, k1, Res.of], (((a2.trans c2).trans f2).trans g2).trans k2, k3⟩
  · obtain rfl := rep_bl.mp f3
    cases e
    exact ⟨_, S3, by simp [eChain, a1, c1, f1, Res.of], (a2.trans c2).trans f2, rep_bl.mpr rfl⟩
  · cases e
theorem sa_nil : SA r b own aNil vNil := fun c ρ S σ us I e => by cases e; exact ⟨[], S, rfl, .refl, .nil⟩
theorem sa_cons {ea : EF} {a : AF} {va : VF} {vl : VA} (h : SP r b own ea va) (hs : SA r b own a vl) : SA r b own (aCons ea a) (vCons va vl) := fun c ρ S σ us I e => by
  obtain ⟨x, e1, e⟩ := bnd e
  obtain ⟨xs, e2, e⟩ := bnd e
  cases e
  obtain ⟨d1, S1, a1, a2, a3⟩ := h c ρ S σ x I e1
  obtain ⟨ds, S2, c1, c2, c3⟩ := hs c ρ S1 σ xs (I.grow a2) e2
  exact ⟨d1 :: ds, S2, by simp [aCons, a1, c1], a2.trans c2, .cons (a3.mono c2.vis) c3⟩
theorem sal_nil : SAl r b own aNil vNil := fun c ρ S σ us I e => by cases e; exact ⟨[], S, rfl, .refl, rfl⟩
theorem sal_cons {ea : EF} {a : AF} {va : VF} {vl : VA} (h : SL r b own ea va) (hs : SAl r b own a vl) : SAl r b own (aCons ea a) (vCons va vl) := fun c ρ S σ us I e => by
  obtain ⟨x, e1, e⟩ := bnd e
  obtain ⟨xs, e2, e⟩ := bnd e
  cases e
  obtain ⟨d1, S1, a1, a2, a3⟩ := h c ρ S σ x I e1
  obtain ⟨ds, S2, c1, c2, c3⟩ := hs c ρ S1 σ xs (I.grow a2) e2
  exact ⟨d1 :: ds, S2, by simp [aCons, a1, c1], a2.trans c2, d1, ds, rfl, a3.pre c2.pre, c3⟩
theorem sp_tup {a : AF} {vl : VA} (h : SA r b own a vl) : SP r b own (eTup a) (vTup vl) := fun c ρ S σ u I e => by
  obtain ⟨xs, e1, e⟩ := bnd e
  split at e
  · rename_i q
    cases e
    obtain ⟨ds, S1, a1, a2, a3⟩ := h c ρ S σ xs I e1
    exact ⟨.tup ds, S1, by simp only [eTup, a1, Res.bind_ok]; rw [if_pos (by rw [a3.length]; exact q)], a2, rep_tup.mpr ⟨ds, rfl, a3⟩⟩
  · cases e
theorem newL {L H : List Nat} {S : Store} {us : List U} {ds : List D} (hb : ∀ m ∈ H, m < S.length) (h : reps r (vis H S) us ds) : Gr L S (S ++ [.lst ds]) ∧ rep r (vis H (S ++ [.lst ds])) (.lst us) (.ref S.length) :=
  ⟨Gr.app _ rfl, rep_lst.mpr ⟨ds, latV_of (by simp) (fun z => by have := hb _ z; omega), h.mono (.pre (List.prefix_append _ _))⟩⟩
theorem newD {L H : List Nat} {S : Store} {ks : List Txt} {us : List U} {kvs : List (Txt × D)} (hb : ∀ m ∈ H, m < S.length) (hk : kvs.map (·.1) = ks.map r) (h : reps r (vis H S) us (kvs.map (·.2))) : Gr L S (S ++ [.dct kvs]) ∧ rep r (vis H (S ++ [.dct kvs])) (.dct ks us) (.ref S.length) :=
  ⟨Gr.app _ rfl, rep_dct.mpr ⟨kvs, datV_of (.inl (by simp)) (fun z => by have := hb _ z; omega), hk, h.mono (.pre (List.prefix_append _ _))⟩⟩
theorem sp_lst {a : AF} {vl : VA} (h : SA r b own a vl) : SP r b own (eLst a) (vLst vl) := fun c ρ S σ u I e => by
  obtain ⟨xs, e1, e⟩ := bnd e
  split at e
  · rename_i q
    cases e
    obtain ⟨ds, S1, a1, a2, a3⟩ := h c ρ S σ xs I e1
    obtain ⟨n1, n2⟩ := newL (L := c.L) (I.grow a2).hb a3
    exact ⟨_, _, by simp only [eLst, a1, Res.bind_ok]; rw [if_pos (by rw [a3.length]; exact q)], a2.trans n1, n2⟩
  · cases e
theorem sp_d0 : SP r b own eD0 (fun _ => some (.dct [] [])) := fun c ρ S σ u I e => by
  cases e
  obtain ⟨n1, n2⟩ := newD (r := r) (L := c.L) (ks := []) (us := []) (kvs := []) I.hb rfl .nil
  exact ⟨_, _, rfl, n1, n2⟩
theorem sp_call {f : FN} {g : List U → Option U} {a : AF} {vl : VA} (hf : CallV r b f g) (h : SAl r b own a vl) : SP r b own (eCall f a) (vCall g vl) := fun c ρ S σ u I e => by
  obtain ⟨xs, e1, e⟩ := bnd e
  obtain ⟨ds, S1, a1, a2, a3⟩ := h c ρ S σ xs I e1
  have I1 := I.grow a2
  obtain ⟨d, S2, f1, f2, f3⟩ := hf c.L c.H S1 xs u ds I1.lk I1.nl I1.hb a3 e
  exact ⟨d, S2, by simp [eCall, a1, f1, Res.of], a2.trans f2, f3⟩
theorem sp_callD {C : CF} {V : List U → Option U} {a : AF} {vl : VA} (hf : Pu r b C V) (h : SA r b own a vl) : SP r b own (eCallD C a) (vCallD V vl) := fun c ρ S σ u I e => by
  obtain ⟨xs, e1, e⟩ := bnd e
  obtain ⟨ds, S1, a1, a2, a3⟩ := h c ρ S σ xs I e1
  have I1 := I.grow a2
  obtain ⟨d, S2, f1, f2, f3⟩ := hf c.L c.H S1 xs ds u I1.lk I1.nl I1.hb a3 e
  exact ⟨d, S2, by simp [eCallD, a1, f1], a2.trans f2, f3⟩
theorem so_none : SO r b own pNone vpNone := fun c ρ S σ o I e => by cases e; exact ⟨S, rfl, .refl⟩
theorem so_some {ea : EF} {va : VF} (h : SP r b own ea va) : SO r b own (pSome ea) (vpSome va) := fun c ρ S σ o I e => by
  obtain ⟨x, e1, e⟩ := bnd e
  obtain ⟨d1, S1, a1, a2, a3⟩ := h c ρ S σ x I e1
  split at e
  · obtain rfl := rep_int.mp a3
    cases e
    exact ⟨S1, by simp [pSome, a1], a2⟩
  · cases e
end
end Al

set_option Elab.async false
set_option linter.all false
set_option maxRecDepth 100000
set_option maxHeartbeats 1000000
/-! Vs: operations. -/
namespace Al
def addV (s : Sy) : U → U → Option U
  | .int i, .int j => some (.int (i + j))
  | .str x, .str y => if s.free x && s.free y && s.free (x ++ y) && decide (x.length + y.length ≤ lim) then some (.str (x ++ y)) else none
  | .tup xs, .tup ys => if xs.length + ys.length ≤ lim then some (.tup (xs ++ ys)) else none
  | .lst xs, .lst ys => if xs.length + ys.length ≤ lim then some (.lst (xs ++ ys)) else none
  | _, _ => none
def subV : U → U → Option U
  | .int i, .int j => some (.int (i - j))
  | _, _ => none
def mulV : U → U → Option U
  | .int i, .int j => if smallI i || smallI j then some (.int (i * j)) else none
  | _, _ => none
def modV : U → U → Option U
  | .int i, .int j => if 0 < j then some (.int (i % j)) else none
  | _, _ => none
def fdivV : U → U → Option U
  | .int i, .int j => if 0 < j ∧ j < 1073741824 then some (.int (i / j)) else none
  | _, _ => none
/-- texts in order: both free, or both renamed -/
def cmpS (s : Sy) (x y : Txt) : Bool := (s.free x && s.free y) || (s.K0.contains x && s.K0.contains y)
def ltV (s : Sy) : U → U → Option U
  | .int i, .int j => some (.bl (decide (i < j)))
  | .str x, .str y => if cmpS s x y then some (.bl (!leT y x)) else none
  | _, _ => none
def leV (s : Sy) : U → U → Option U
  | .int i, .int j => some (.bl (decide (i ≤ j)))
  | .str x, .str y => if cmpS s x y then some (.bl (leT x y)) else none
  | _, _ => none
def gtV (s : Sy) : U → U → Option U
  | .int i, .int j => some (.bl (decide (j < i)))
  | .str x, .str y => if cmpS s x y then some (.bl (!leT x y)) else none
  | _, _ => none
def geV (s : Sy) : U → U → Option U
  | .int i, .int j => some (.bl (decide (j ≤ i)))
  | .str x, .str y => if cmpS s x y then some (.bl (leT y x)) else none
  | _, _ => none
def asStrU : U → Option Txt
  | .str x => some x
  | _ => none
def inBV (s : Sy) : U → U → Option Bool
  | .str x, .str z => if s.free x && s.free z && decide (x.length = 1) then some (z.contains (x.headD 0)) else none
  | .str x, .tup us => (mapO asStrU us).map fun l => l.any (· == x)
  | .str x, .lst us => (mapO asStrU us).map fun l => l.any (· == x)
  | _, _ => none
def inV (s : Sy) (x y : U) : Option U := (inBV s x y).map U.bl
def notInV (s : Sy) (x y : U) : Option U := (inBV s x y).map fun k => U.bl (!k)
def ixV (s : Sy) : U → U → Option U
  | .tup us, .int i => L2.atI us i
  | .str x, .int i => if s.free x && decide (x.length ≤ lim) then (L2.atI x i).bind fun c => if s.free [c] then some (.str [c]) else none else none
  | .lst us, .int i => L2.atI us i
  | _, _ => none
def dGetV : List Txt → List U → Txt → Option U
  | k :: ks, u :: us, x => if k = x then some u else dGetV ks us x
  | _, _, _ => none
def rixV : U → U → Option U
  | .dct ks us, .str k => dGetV ks us k
  | _, _ => none
def rinV : U → U → Option U
  | .str k, .dct ks us => some (.bl (dGetV ks us k).isSome)
  | _, _ => none
def rnotInV : U → U → Option U
  | .str k, .dct ks us => some (.bl (!(dGetV ks us k).isSome))
  | _, _ => none
def isNonV : U → Bool
  | .non => true
  | _ => false
def isV : U → U → Option U
  | x, .non => some (.bl (isNonV x))
  | _, _ => none
def isNotV : U → U → Option U
  | x, .non => some (.bl (!isNonV x))
  | _, _ => none
def repV : U → U → Option U
  | .int i, .int j => if smallI i || smallI j then some (.int (i * j)) else none
  | .lst us, .int k => if -(2 ^ 63) ≤ k ∧ k < 2 ^ 63 ∧ us.length * k.toNat ≤ lim then some (.lst (List.replicate k.toNat us).flatten) else none
  | _, _ => none
section
variable {s : Sy} {r : Txt → Txt} {b : Bool} {v : View}
theorem reps.atI {us : List U} {ds : List D} {i : Int} {u : U} (h : reps r v us ds) (e : L2.atI us i = some u) : ∃ d, L2.atI ds i = some d ∧ rep r v u d := by
  unfold L2.atI at e ⊢
  rw [h.length]
  obtain ⟨j, e1, e2⟩ := bnd e
  obtain ⟨d, e3, e4⟩ := h.get e2
  exact ⟨d, by rw [e1]; exact e3, e4⟩
theorem reps.strs {us : List U} {l : List Txt} : ∀ {ds : List D}, reps r v us ds → mapO asStrU us = some l → mapO asStr ds = some (l.map r) := by
  induction us generalizing l with
  | nil => intro ds h e; cases e; rw [h.nil_iff]; rfl
  | cons u us ih =>
    intro ds h e
    obtain ⟨d, x, rfl, h1, h2⟩ := h.cons_iff
    simp only [mapO] at e
    split at e
    · rename_i y ys e1 e2
      cases e
      cases u <;> simp [asStrU] at e1
      subst e1
      obtain rfl := rep_str.mp h1
      simp [mapO, asStr, ih h2 e2]
    · cases e
theorem reps.of_strs (l : List Txt) : reps r v (l.map .str) ((l.map r).map .str) := by
  induction l with
  | nil => exact .nil
  | cons x l ih => exact .cons (rep_str.mpr rfl) ih
theorem ov_add (R : Rn s r) : OpV r b addO (addV s) := fun L H S x y u a c lk nl hb h1 h2 e => by
  unfold addV at e
  split at e
  · cases e; obtain rfl := r1_int h1; obtain rfl := r1_int h2; exact ⟨_, S, rfl, .refl, rep_int.mpr rfl⟩
  · split at e
    · rename_i p q z
      cases e
      simp only [Bool.and_eq_true, decide_eq_true_eq] at z
      obtain rfl := r1_str h1; obtain rfl := r1_str h2
      rw [R.fix _ z.1.1.1, R.fix _ z.1.1.2]
      exact ⟨_, S, by simp only [addO]; rw [if_pos z.2], .refl, rep_str.mpr (by rw [R.fix _ z.1.2])⟩
    · cases e
  · split at e
    · rename_i q
      cases e
      obtain ⟨ds, rfl, k1⟩ := r1_tup h1; obtain ⟨es, rfl, k2⟩ := r1_tup h2
      exact ⟨_, S, by simp only [addO]; rw [if_pos (by rw [k1.length, k2.length]; exact q)], .refl, rep_tup.mpr ⟨_, rfl, k1.append k2⟩⟩
    · cases e
  · split at e
    · rename_i q
      cases e
      obtain ⟨n, ds, rfl, g1, k1⟩ := r1_lst h1; obtain ⟨m, es, rfl, g2, k2⟩ := r1_lst h2
      obtain ⟨n1, n2⟩ := newL (L := L) hb (k1.append k2)
      exact ⟨_, _, by simp only [addO, g1, g2]; rw [if_pos (by rw [k1.length, k2.length]; exact q)], n1, n2⟩
    · cases e
  · cases e
theorem ov_sub : OpV r b subO subV := fun L H S x y u a c lk nl hb h1 h2 e => by
  unfold subV at e
  split at e
  · cases e; obtain rfl := r1_int h1; obtain rfl := r1_int h2; exact ⟨_, S, rfl, .refl, rep_int.mpr rfl⟩
  · cases e
theorem ov_mul : OpV r b mulO mulV := fun L H S x y u a c lk nl hb h1 h2 e => by
  unfold mulV at e
  split at e
  · split at e
    · rename_i q; cases e; obtain rfl := r1_int h1; obtain rfl := r1_int h2; exact ⟨_, S, by simp only [mulO]; rw [if_pos q], .refl, rep_int.mpr rfl⟩
    · cases e
  · cases e
theorem ov_mod : OpV r b modO modV := fun L H S x y u a c lk nl hb h1 h2 e => by
  unfold modV at e
  split at e
  · split at e
    · rename_i q; cases e; obtain rfl := r1_int h1; obtain rfl := r1_int h2; exact ⟨_, S, by simp only [modO]; rw [if_pos q], .refl, rep_int.mpr rfl⟩
    · cases e
  · cases e
theorem ov_fdiv : OpV r b fdivO fdivV := fun L H S x y u a c lk nl hb h1 h2 e => by
  unfold fdivV at e
  split at e
  · split at e
    · rename_i q; cases e; obtain rfl := r1_int h1; obtain rfl := r1_int h2; exact ⟨_, S, by simp only [fdivO]; rw [if_pos q], .refl, rep_int.mpr rfl⟩
    · cases e
  · cases e
theorem lt_leT (a b : Txt) : decide (a < b) = !leT b a := by
  cases h : leT b a
  · have : ¬ b ≤ a := fun z => by rw [(leT_iff b a).mpr z] at h; cases h
    simpa using this
  · have := (leT_iff b a).mp h
    simpa using this
theorem cmp_ok (R : Rn s r) {x y : Txt} (h : cmpS s x y = true) : leT (r x) (r y) = leT x y ∧ leT (r y) (r x) = leT y x := by
  unfold cmpS at h
  rw [Bool.or_eq_true, Bool.and_eq_true, Bool.and_eq_true] at h
  rcases h with ⟨h1, h2⟩ | ⟨h1, h2⟩
  · rw [R.fix _ h1, R.fix _ h2]; exact ⟨rfl, rfl⟩
  · have h1 : x ∈ s.K0 := by simpa using h1
    have h2 : y ∈ s.K0 := by simpa using h2
    exact ⟨R.mono _ _ h1 h2, R.mono _ _ h2 h1⟩
theorem ov_lt (R : Rn s r) : OpV r b ltO (ltV s) := fun L H S x y u a c lk nl hb h1 h2 e => by
  unfold ltV at e
  split at e
  · cases e; obtain rfl := r1_int h1; obtain rfl := r1_int h2; exact ⟨_, S, rfl, .refl, rep_bl.mpr rfl⟩
  · split at e
    · rename_i q; cases e; obtain rfl := r1_str h1; obtain rfl := r1_str h2; exact ⟨_, S, rfl, .refl, rep_bl.mpr (by rw [lt_leT, (cmp_ok R q).2])⟩
    · cases e
  · cases e
theorem ov_le (R : Rn s r) : OpV r b leO (leV s) := fun L H S x y u a c lk nl hb h1 h2 e => by
  unfold leV at e
  split at e
  · cases e; obtain rfl := r1_int h1; obtain rfl := r1_int h2; exact ⟨_, S, rfl, .refl, rep_bl.mpr rfl⟩
  · split at e
    · rename_i q; cases e; obtain rfl := r1_str h1; obtain rfl := r1_str h2; exact ⟨_, S, rfl, .refl, rep_bl.mpr (by rw [lt_leT, (cmp_ok R q).1, Bool.not_not])⟩
    · cases e
  · cases e
theorem ov_gt (R : Rn s r) : OpV r b gtO (gtV s) := fun L H S x y u a c lk nl hb h1 h2 e => by
  unfold gtV at e
  split at e
  · cases e; obtain rfl := r1_int h1; obtain rfl := r1_int h2; exact ⟨_, S, rfl, .refl, rep_bl.mpr rfl⟩
  · split at e
    · rename_i q; cases e; obtain rfl := r1_str h1; obtain rfl := r1_str h2; exact ⟨_, S, rfl, .refl, rep_bl.mpr (by rw [lt_leT, (cmp_ok R q).1])⟩
    · cases e
  · cases e
theorem ov_ge (R : Rn s r) : OpV r b geO (geV s) := fun L H S x y u a c lk nl hb h1 h2 e => by
  unfold geV at e
  split at e
  · cases e; obtain rfl := r1_int h1; obtain rfl := r1_int h2; exact ⟨_, S, rfl, .refl, rep_bl.mpr rfl⟩
  · split at e
    · rename_i q; cases e; obtain rfl := r1_str h1; obtain rfl := r1_str h2; exact ⟨_, S, rfl, .refl, rep_bl.mpr (by rw [lt_leT, (cmp_ok R q).2, Bool.not_not])⟩
    · cases e
  · cases e
theorem any_r (R : Rn s r) (l : List Txt) (x : Txt) : (l.map r).any (· == r x) = l.any (· == x) := by
  induction l with
  | nil => rfl
  | cons y l ih =>
    simp only [List.map_cons, List.any_cons, ih]
    congr 1
    by_cases q : y = x
    · simp [q]
    · have : r y ≠ r x := fun z => q (R.inj _ _ z)
      rw [beq_eq_false_iff_ne.mpr q, beq_eq_false_iff_ne.mpr this]
theorem inB_ok (R : Rn s r) {H : List Nat} {S : Store} {x y : U} {a c : D} {k : Bool} (h1 : rep1 r H S x a) (h2 : rep1 r H S y c) (e : inBV s x y = some k) : inB a c S = some k := by
  unfold inBV at e
  split at e
  · rename_i x z
    split at e
    · rename_i q
      cases e
      simp only [Bool.and_eq_true, decide_eq_true_eq] at q
      obtain rfl := r1_str h1; obtain rfl := r1_str h2
      rw [R.fix _ q.1.1, R.fix _ q.1.2]
      match x, q.2 with
      | [ch], _ => simp [inB]
    · cases e
  · obtain rfl := r1_str h1
    obtain ⟨ds, rfl, k1⟩ := r1_tup h2
    obtain ⟨l, e1, rfl⟩ := Option.map_eq_some_iff.mp e
    have := k1.strs e1
    rename_i x us
    cases hx : r x with
    | nil => simp only [inB, this, Option.map_some]; rw [← hx, any_r R]
    | cons ch t =>
      cases t with
      | nil => simp only [inB, this, Option.map_some]; rw [← hx, any_r R]
      | cons c2 t => simp only [inB, this, Option.map_some]; rw [← hx, any_r R]
  · obtain rfl := r1_str h1
    obtain ⟨n, ds, rfl, g, k1⟩ := r1_lst h2
    obtain ⟨l, e1, rfl⟩ := Option.map_eq_some_iff.mp e
    have := k1.strs e1
    rename_i x us
    cases hx : r x with
    | nil => simp only [inB, g, this, Option.map_some]; rw [← hx, any_r R]
    | cons ch t =>
      cases t with
      | nil => simp only [inB, g, this, Option.map_some]; rw [← hx, any_r R]
      | cons c2 t => simp only [inB, g, this, Option.map_some]; rw [← hx, any_r R]
  · cases e
theorem ov_in (R : Rn s r) : OpV r b inO (inV s) := fun L H S x y u a c lk nl hb h1 h2 e => by
  obtain ⟨k, e1, rfl⟩ := Option.map_eq_some_iff.mp e
  exact ⟨_, S, by simp only [inO, inB_ok R h1 h2 e1, Option.map_some], .refl, rep_bl.mpr rfl⟩
theorem ov_notIn (R : Rn s r) : OpV r b notInO (notInV s) := fun L H S x y u a c lk nl hb h1 h2 e => by
  obtain ⟨k, e1, rfl⟩ := Option.map_eq_some_iff.mp e
  exact ⟨_, S, by simp only [notInO, inB_ok R h1 h2 e1, Option.map_some], .refl, rep_bl.mpr rfl⟩
theorem ov_ix (R : Rn s r) : OpV r b ixO (ixV s) := fun L H S x y u a c lk nl hb h1 h2 e => by
  unfold ixV at e
  split at e
  · obtain ⟨ds, rfl, k1⟩ := r1_tup h1; obtain rfl := r1_int h2
    obtain ⟨d, e1, e2⟩ := k1.atI e
    exact ⟨d, S, by simp only [ixO, e1, Option.map_some], .refl, e2⟩
  · split at e
    · rename_i q
      simp only [Bool.and_eq_true, decide_eq_true_eq] at q
      obtain rfl := r1_str h1; obtain rfl := r1_int h2
      obtain ⟨ch, e1, e⟩ := bnd e
      split at e
      · rename_i z
        cases e
        exact ⟨.str [ch], S, by rw [R.fix _ q.1]; simp only [ixO]; rw [if_pos q.2, e1]; rfl, .refl, rep_str.mpr (by rw [R.fix _ z])⟩
      · cases e
    · cases e
  · obtain ⟨n, ds, rfl, g, k1⟩ := r1_lst h1; obtain rfl := r1_int h2
    obtain ⟨d, e1, e2⟩ := k1.atI e
    exact ⟨d, S, by simp only [ixO, lstAt_of S g, Option.bind_some, e1, Option.map_some], .refl, e2⟩
  · cases e
theorem dGet_ok (R : Rn s r) (k : Txt) : ∀ {kvs : List (Txt × D)} {ks : List Txt} {us : List U}, kvs.map (·.1) = ks.map r → reps r v us (kvs.map (·.2)) →
    match dGetV ks us k with
    | some u => ∃ d, dGet kvs (r k) = some d ∧ rep r v u d
    | none => dGet kvs (r k) = none
  | [], ks, us, h1, h2 => by
    cases ks with
    | nil => simp [dGetV, dGet]
    | cons a l => simp at h1
  | p :: kvs, ks, us, h1, h2 => by
    cases ks with
    | nil => simp at h1
    | cons a l =>
      simp at h1
      cases us with
      | nil => have := h2.nil_iff; simp at this
      | cons u us =>
        obtain ⟨d, x, e, k1, k2⟩ := h2.cons_iff
        simp at e
        obtain ⟨rfl, rfl⟩ := e
        have ih := dGet_ok R k h1.2 k2
        unfold dGetV dGet
        by_cases q : a = k
        · subst q
          rw [if_pos rfl, if_pos h1.1]
          exact ⟨_, rfl, k1⟩
        · rw [if_neg q, if_neg (by rw [h1.1]; exact fun z => q (R.inj _ _ z))]
          exact ih
theorem rd_of {S : Store} {n : Nat} {kvs : List (Txt × D)} (h : S[n]? = some (.dct kvs) ∨ S[n]? = some (.ldct kvs)) : rdAt S n = some kvs := by
  rcases h with h | h <;> simp [rdAt, h]
theorem ov_rix (R : Rn s r) : OpV r b rixO rixV := fun L H S x y u a c lk nl hb h1 h2 e => by
  unfold rixV at e
  split at e
  · obtain ⟨n, kvs, rfl, g, k1, k2⟩ := r1_dct h1; obtain rfl := r1_str h2
    rename_i k
    have := dGet_ok R k k1 k2
    rw [e] at this
    obtain ⟨d, e1, e2⟩ := this
    exact ⟨d, S, by simp only [rixO, rd_of g, Option.bind_some, e1, Option.map_some], .refl, e2⟩
  · cases e
theorem has_ok (R : Rn s r) {k : Txt} {kvs : List (Txt × D)} {ks : List Txt} {us : List U} (h1 : kvs.map (·.1) = ks.map r) (h2 : reps r v us (kvs.map (·.2))) : (dGet kvs (r k)).isSome = (dGetV ks us k).isSome := by
  have := dGet_ok R k h1 h2
  split at this
  · rename_i u e
    obtain ⟨d, e1, _⟩ := this
    rw [e1, e]; rfl
  · rename_i e
    rw [this, e]; rfl
theorem ov_rin (R : Rn s r) : OpV r b rinO rinV := fun L H S x y u a c lk nl hb h1 h2 e => by
  unfold rinV at e
  split at e
  · cases e
    obtain ⟨n, kvs, rfl, g, k1, k2⟩ := r1_dct h2; obtain rfl := r1_str h1
    exact ⟨_, S, by simp only [rinO, rinB, rd_of g, Option.map_some, has_ok R k1 k2], .refl, rep_bl.mpr rfl⟩
  · cases e
theorem ov_rnotIn (R : Rn s r) : OpV r b rnotInO rnotInV := fun L H S x y u a c lk nl hb h1 h2 e => by
  unfold rnotInV at e
  split at e
  · cases e
    obtain ⟨n, kvs, rfl, g, k1, k2⟩ := r1_dct h2; obtain rfl := r1_str h1
    exact ⟨_, S, by simp only [rnotInO, rinB, rd_of g, Option.map_some, has_ok R k1 k2], .refl, rep_bl.mpr rfl⟩
  · cases e
theorem isNon_r {H : List Nat} {S : Store} {x : U} {a : D} (h : rep1 r H S x a) : isNon a = isNonV x := by
  cases x with
  | non => obtain rfl := r1_non h; rfl
  | bl b => obtain rfl := r1_bl h; rfl
  | int b => obtain rfl := r1_int h; rfl
  | str b => obtain rfl := r1_str h; rfl
  | tup b => obtain ⟨_, rfl, _⟩ := r1_tup h; rfl
  | lst b => obtain ⟨_, _, rfl, _⟩ := r1_lst h; rfl
  | dct _ b => obtain ⟨_, _, rfl, _⟩ := r1_dct h; rfl
  | tdct _ b => obtain ⟨_, _, _, rfl, _⟩ := r1_tdct h; rfl
theorem ov_is : OpV r b isO isV := fun L H S x y u a c lk nl hb h1 h2 e => by
  unfold isV at e
  split at e
  · cases e
    obtain rfl := r1_non h2
    exact ⟨_, S, isO_non a, .refl, rep_bl.mpr (by rw [isNon_r h1])⟩
  · cases e
theorem ov_isNot : OpV r b isNotO isNotV := fun L H S x y u a c lk nl hb h1 h2 e => by
  unfold isNotV at e
  split at e
  · cases e
    obtain rfl := r1_non h2
    exact ⟨_, S, isNotO_non a, .refl, rep_bl.mpr (by rw [isNon_r h1])⟩
  · cases e
theorem reps.rep {us : List U} {ds : List D} (h : reps r v us ds) : ∀ n : Nat, reps r v (List.replicate n us).flatten (List.replicate n ds).flatten
  | 0 => .nil
  | n + 1 => by simp only [List.replicate_succ, List.flatten_cons]; exact h.append (h.rep n)
theorem ov_rep : OpV r b repO repV := fun L H S x y u a c lk nl hb h1 h2 e => by
  unfold repV at e
  split at e
  · split at e
    · rename_i q; cases e; obtain rfl := r1_int h1; obtain rfl := r1_int h2; exact ⟨_, S, by simp only [repO]; rw [if_pos q], .refl, rep_int.mpr rfl⟩
    · cases e
  · split at e
    · rename_i q
      cases e
      obtain ⟨n, ds, rfl, g, k1⟩ := r1_lst h1; obtain rfl := r1_int h2
      obtain ⟨n1, n2⟩ := newL (L := L) hb (k1.rep _)
      exact ⟨_, _, by simp only [repO, g]; rw [if_pos (by rw [k1.length]; exact q)], n1, n2⟩
    · cases e
  · cases e
end
end Al

set_option Elab.async false
set_option linter.all false
set_option maxRecDepth 100000
set_option maxHeartbeats 1000000
/-! Vs: == and keys. -/
namespace Al
open PySem
mutual
def eqU : U → U → Bool
  | .non, y => match y with
    | .non => true
    | _ => false
  | .bl b, y => match y with
    | .bl c => b == c
    | .int j => (if b then 1 else 0) == j
    | _ => false
  | .int i, y => match y with
    | .int j => i == j
    | .bl c => i == (if c then 1 else 0)
    | _ => false
  | .str x, y => match y with
    | .str z => x == z
    | _ => false
  | .tup us, y => match y with
    | .tup vs => eqUs us vs
    | _ => false
  | .lst us, y => match y with
    | .lst vs => eqUs us vs
    | _ => false
  | .dct _ _, _ => false
  | .tdct _ _, _ => false
def eqUs : List U → List U → Bool
  | [], ys => match ys with
    | [] => true
    | _ => false
  | x :: xs, ys => match ys with
    | [] => false
    | y :: ys => eqU x y && eqUs xs ys
end
def okS (s : Sy) (x : Txt) : Bool := (s.free x && strsOk x) || s.K0.contains x
def okU (s : Sy) : Nat → U → Bool
  | 0, _ => false
  | n + 1, u => match u with
    | .str x => okS s x
    | .tup us => us.all (okU s n)
    | .lst us => us.all (okU s n)
    | .dct _ _ => false
    | .tdct _ _ => false
    | _ => true
def eqV (s : Sy) (x y : U) : Option U := if okU s 60 x && okU s 60 y then some (.bl (eqU x y)) else none
def neV (s : Sy) (x y : U) : Option U := if okU s 60 x && okU s 60 y then some (.bl (!eqU x y)) else none
mutual
def pOf (r : Txt → Txt) : U → PyData
  | .non => .none
  | .bl b => .bool b
  | .int i => .int i
  | .str x => .str (toS (r x))
  | .tup us => .tuple (pOfs r us)
  | .lst us => .list (pOfs r us)
  | .dct _ _ => .dict []
  | .tdct _ _ => .dict []
def pOfs (r : Txt → Txt) : List U → List PyData
  | [] => []
  | u :: us => pOf r u :: pOfs r us
end
section
variable {s : Sy} {r : Txt → Txt} {b : Bool} {v : View}
mutual
theorem eqv_of (R : Rn s r) : ∀ (x y : U), PyData.eqv (pOf r x) (pOf r y) = eqU x y
  | .non, y => by cases y <;> simp [pOf, PyData.eqv, eqU]
  | .bl _, y => by cases y <;> simp [pOf, PyData.eqv, eqU]
  | .int _, y => by cases y <;> simp [pOf, PyData.eqv, eqU]
  | .str x, y => by
    cases y with
    | str z =>
      simp only [pOf, PyData.eqv, eqU]
      by_cases q : x = z
      · subst q; simp
      · have : toS (r x) ≠ toS (r z) := fun w => q (R.inj _ _ (toS_inj w))
        rw [beq_eq_false_iff_ne.mpr q, beq_eq_false_iff_ne.mpr this]
    | _ => simp [pOf, PyData.eqv, eqU]
  | .tup us, y => by
    cases y with
    | tup vs => simp only [pOf, PyData.eqv, eqU]; exact eqvs_of R us vs
    | _ => simp [pOf, PyData.eqv, eqU]
  | .lst us, y => by
    cases y with
    | lst vs => simp only [pOf, PyData.eqv, eqU]; exact eqvs_of R us vs
    | _ => simp [pOf, PyData.eqv, eqU]
  | .dct _ _, y => by cases y <;> simp [pOf, PyData.eqv, eqU]
  | .tdct _ _, y => by cases y <;> simp [pOf, PyData.eqv, eqU]
theorem eqvs_of (R : Rn s r) : ∀ (xs ys : List U), PyData.eqvAll (pOfs r xs) (pOfs r ys) = eqUs xs ys
  | [], ys => by cases ys <;> simp [pOfs, PyData.eqvAll, eqUs]
  | x :: xs, ys => by
    cases ys with
    | nil => simp [pOfs, PyData.eqvAll, eqUs]
    | cons y ys => simp only [pOfs, PyData.eqvAll, eqUs]; rw [eqv_of R x y, eqvs_of R xs ys]
end
theorem okS_r (R : Rn s r) {x : Txt} (h : okS s x = true) : strsOk (r x) = true := by
  unfold okS at h
  rw [Bool.or_eq_true, Bool.and_eq_true] at h
  rcases h with ⟨h1, h2⟩ | h
  · rw [R.fix _ h1]; exact h2
  · exact R.good _ (by simpa using h)
theorem toP_rep (R : Rn s r) {H : List Nat} {S : Store} : ∀ (n : Nat) (u : U) (d : D), okU s n u = true → rep r (vis H S) u d → toP n S d = some (pOf r u)
  | 0, u, d, h, _ => by unfold okU at h; cases h
  | n + 1, u, d, h, k => by
    have key : ∀ (us : List U) (ds : List D), us.all (okU s n) = true → reps r (vis H S) us ds → mapO (toP n S) ds = some (pOfs r us) := by
      intro us
      induction us with
      | nil => intro ds _ k; rw [k.nil_iff]; simp [mapO, pOfs]
      | cons u us ih =>
        intro ds h k
        obtain ⟨d, e, rfl, k1, k2⟩ := k.cons_iff
        simp only [List.all_cons, Bool.and_eq_true] at h
        simp [mapO, pOfs, toP_rep R n u d h.1 k1, ih e h.2 k2]
    cases u with
    | non => rw [rep_non.mp k]; simp [toP, pOf]
    | bl x => rw [rep_bl.mp k]; simp [toP, pOf]
    | int x => rw [rep_int.mp k]; simp [toP, pOf]
    | str x =>
      unfold okU at h
      rw [rep_str.mp k]; simp [toP, pOf, okS_r R h]
    | tup us =>
      unfold okU at h
      obtain ⟨ds, rfl, k1⟩ := rep_tup.mp k
      simp [toP, pOf, key us ds h k1]
    | lst us =>
      unfold okU at h
      obtain ⟨ds, e1, k1⟩ := rep_lst.mp k
      obtain ⟨m, rfl, e2, _⟩ := latV_vis e1
      simp [toP, pOf, e2, key us ds h k1]
    | dct a c => unfold okU at h; cases h
    | tdct a c => unfold okU at h; cases h
theorem toP_rep1 (R : Rn s r) {H : List Nat} {S : Store} (n : Nat) (u : U) (d : D) (h : okU s n u = true) (k : rep1 r H S u d) : toP n S d = some (pOf r u) := by
  cases u with
  | lst us =>
    obtain ⟨m, ds, rfl, e2, k1⟩ := r1_lst k
    have : rep r (vis [] S) (.lst us) (.ref m) := rep_lst.mpr ⟨ds, latV_of e2 (by simp), k1.mono (.sub (by simp))⟩
    exact toP_rep R n _ _ h this
  | dct a c => cases n <;> (unfold okU at h; cases h)
  | tdct a c => cases n <;> (unfold okU at h; cases h)
  | non => exact toP_rep R n _ _ h (show rep r (vis H S) _ d from k)
  | bl _ => exact toP_rep R n _ _ h (show rep r (vis H S) _ d from k)
  | int _ => exact toP_rep R n _ _ h (show rep r (vis H S) _ d from k)
  | str _ => exact toP_rep R n _ _ h (show rep r (vis H S) _ d from k)
  | tup _ => exact toP_rep R n _ _ h (show rep r (vis H S) _ d from k)
theorem eqO_of {S : Store} {a c : D} {p q : PyData} (h1 : toP 60 S a = some p) (h2 : toP 60 S c = some q) : eqO a c S = some (.bl (PyData.eqv p q), S) := by
  unfold eqO
  split
  · rename_i x y
    simp only [toP] at h1 h2
    split at h1
    · split at h2
      · cases h1; cases h2
        simp only [PyData.eqv]
        congr 3
        by_cases q : x = y
        · subst q; simp
        · have : toS x ≠ toS y := fun w => q (toS_inj w)
          rw [beq_eq_false_iff_ne.mpr q, beq_eq_false_iff_ne.mpr this]
      · cases h2
    · cases h1
  · simp only [toP] at h1 h2; cases h1; cases h2; simp [PyData.eqv]
  · simp only [h1, h2]
theorem neO_of {S : Store} {a c : D} {p q : PyData} (h1 : toP 60 S a = some p) (h2 : toP 60 S c = some q) : neO a c S = some (.bl (!PyData.eqv p q), S) := by
  unfold neO
  split
  · rename_i x y
    simp only [toP] at h1 h2
    split at h1
    · split at h2
      · cases h1; cases h2
        simp only [PyData.eqv]
        congr 4
        by_cases q : x = y
        · subst q; simp
        · have : toS x ≠ toS y := fun w => q (toS_inj w)
          rw [beq_eq_false_iff_ne.mpr q, beq_eq_false_iff_ne.mpr this]
      · cases h2
    · cases h1
  · simp only [toP] at h1 h2; cases h1; cases h2; simp [PyData.eqv]
  · simp only [h1, h2]
theorem ov_eq (R : Rn s r) : OpV r b eqO (eqV s) := fun L H S x y u a c lk nl hb h1 h2 e => by
  unfold eqV at e
  split at e
  · rename_i q
    cases e
    rw [Bool.and_eq_true] at q
    exact ⟨_, S, eqO_of (toP_rep1 R 60 x a q.1 h1) (toP_rep1 R 60 y c q.2 h2), .refl, rep_bl.mpr (by rw [eqv_of R])⟩
  · cases e
theorem ov_ne (R : Rn s r) : OpV r b neO (neV s) := fun L H S x y u a c lk nl hb h1 h2 e => by
  unfold neV at e
  split at e
  · rename_i q
    cases e
    rw [Bool.and_eq_true] at q
    exact ⟨_, S, neO_of (toP_rep1 R 60 x a q.1 h1) (toP_rep1 R 60 y c q.2 h2), .refl, rep_bl.mpr (by rw [eqv_of R])⟩
  · cases e
end
/-! dicts -/
def dHitsV (s : Sy) (ls : List Txt) (vs : List U) : List Txt → List U → Option Bool
  | k :: ks, u :: us => match dGetV ls vs k with
    | none => some false
    | some y => if okU s 60 u && okU s 60 y then (dHitsV s ls vs ks us).map fun k => eqU u y && k else none
  | _, _ => some true
def dEqV (s : Sy) (ks : List Txt) (us : List U) (ls : List Txt) (vs : List U) : Option Bool := if ks.length = ls.length then dHitsV s ls vs ks us else some false
def deqV (s : Sy) : U → U → Option U
  | .dct ks us, .dct ls vs => (dEqV s ks us ls vs).map U.bl
  | _, _ => none
def dneV (s : Sy) : U → U → Option U
  | .dct ks us, .dct ls vs => (dEqV s ks us ls vs).map fun k => U.bl (!k)
  | _, _ => none
section
variable {s : Sy} {r : Txt → Txt} {v : View}
theorem hits_ok (R : Rn s r) {H : List Nat} {S : Store} {ls : List Txt} {vs : List U} {lvs : List (Txt × D)} (l1 : lvs.map (·.1) = ls.map r) (l2 : reps r (vis H S) vs (lvs.map (·.2))) : ∀ (ks : List Txt) (us : List U) (kvs : List (Txt × D)) (k : Bool), kvs.map (·.1) = ks.map r → reps r (vis H S) us (kvs.map (·.2)) → dHitsV s ls vs ks us = some k → dHits S lvs kvs = some k
  | [], us, kvs, k, h1, h2, e => by
    have : kvs = [] := by simpa using h1
    subst this
    have : us = [] := by cases us with
      | nil => rfl
      | cons a l => obtain ⟨d, x, e, _⟩ := h2.cons_iff; simp at e
    subst this
    simp [dHitsV] at e; subst e; rfl
  | a :: ks, us, kvs, k, h1, h2, e => by
    cases kvs with
    | nil => simp at h1
    | cons p kvs =>
      cases us with
      | nil => have := h2.nil_iff; simp at this
      | cons u us =>
        simp at h1
        obtain ⟨d, x, e0, k1, k2⟩ := h2.cons_iff
        simp at e0
        obtain ⟨rfl, rfl⟩ := e0
        have g := dGet_ok R a l1 l2
        rw [← h1.1] at g
        unfold dHitsV at e
        unfold dHits
        split at e
        · rename_i q
          rw [q] at g
          cases e
          rw [g]
        · rename_i y q
          rw [q] at g
          obtain ⟨dy, g1, g2⟩ := g
          split at e
          · rename_i z
            rw [Bool.and_eq_true] at z
            obtain ⟨k', e1, rfl⟩ := Option.map_eq_some_iff.mp e
            have ih := hits_ok R l1 l2 ks us kvs k' h1.2 k2 e1
            simp only [g1, toP_rep R 60 u _ z.1 k1, toP_rep R 60 y _ z.2 g2, ih, eqv_of R]
          · cases e
theorem deq_core (R : Rn s r) {H : List Nat} {S : Store} {ks ls : List Txt} {us vs : List U} {a c : D} {k : Bool} (nl : Nl [] S) (h1 : rep1 r H S (.dct ks us) a) (h2 : rep1 r H S (.dct ls vs) c) (e : dEqV s ks us ls vs = some k) : ∃ n m kvs lvs, a = .ref n ∧ c = .ref m ∧ dctAt S n = some kvs ∧ dctAt S m = some lvs ∧ dEqB S kvs lvs = some k := by
  obtain ⟨kvs, g1, k1, k2⟩ := h1
  obtain ⟨lvs, g2, l1, l2⟩ := h2
  obtain ⟨n, rfl, g1, _⟩ := datV_nl nl g1
  obtain ⟨m, rfl, g2, _⟩ := datV_nl nl g2
  refine ⟨n, m, kvs, lvs, rfl, rfl, by simp [dctAt, g1], by simp [dctAt, g2], ?_⟩
  unfold dEqV at e
  unfold dEqB
  have n1 : kvs.length = ks.length := by simpa using congrArg List.length k1
  have n2 : lvs.length = ls.length := by simpa using congrArg List.length l1
  rw [n1, n2]
  split at e
  · rename_i q; rw [if_pos q]; exact hits_ok R l1 l2 ks us kvs k k1 k2 e
  · rename_i q; rw [if_neg q]; exact e
theorem ov_deq (R : Rn s r) : OpV r true deqO (deqV s) := fun L H S x y u a c lk nl hb h1 h2 e => by
  cases lk rfl
  unfold deqV at e
  split at e
  · obtain ⟨k, e1, rfl⟩ := Option.map_eq_some_iff.mp e
    obtain ⟨n, m, kvs, lvs, rfl, rfl, g1, g2, g3⟩ := deq_core R nl h1 h2 e1
    exact ⟨_, S, by simp only [deqO, g1, g2, g3, Option.map_some], .refl, rep_bl.mpr rfl⟩
  · cases e
theorem ov_dne (R : Rn s r) : OpV r true dneO (dneV s) := fun L H S x y u a c lk nl hb h1 h2 e => by
  cases lk rfl
  unfold dneV at e
  split at e
  · obtain ⟨k, e1, rfl⟩ := Option.map_eq_some_iff.mp e
    obtain ⟨n, m, kvs, lvs, rfl, rfl, g1, g2, g3⟩ := deq_core R nl h1 h2 e1
    exact ⟨_, S, by simp only [dneO, g1, g2, g3, Option.map_some], .refl, rep_bl.mpr rfl⟩
  · cases e
end
/-! keys that are tuples -/
mutual
def kOf (r : Txt → Txt) : U → NestedKey
  | .non => .none
  | .bl b => .num (if b = true then 1 else 0)
  | .int i => .num i
  | .str x => .text (toS (r x))
  | .tup us => .tup (kOfs r us)
  | .lst _ => .none
  | .dct _ _ => .none
  | .tdct _ _ => .none
def kOfs (r : Txt → Txt) : List U → List NestedKey
  | [] => []
  | u :: us => kOf r u :: kOfs r us
end
/-- an immutable value of at most so many levels -/
def keyU : Nat → U → Bool
  | 0, u => match u with
    | .non => true | .bl _ => true | .int _ => true | .str _ => true
    | _ => false
  | n + 1, u => match u with
    | .non => true | .bl _ => true | .int _ => true | .str _ => true
    | .tup us => us.all (keyU n)
    | _ => false
def tGetV : List U → List U → U → Option U
  | k :: ks, u :: us, x => if eqU k x then some u else tGetV ks us x
  | _, _, _ => none
def tixV : U → U → Option U
  | .tdct ks us, .tup x => if keyU 8 (.tup x) && ks.all (keyU 8) then tGetV ks us (.tup x) else none
  | _, _ => none
section
variable {s : Sy} {r : Txt → Txt} {b : Bool} {v : View}
theorem nk_rep : ∀ (n : Nat) (u : U) (d : D), keyU n u = true → rep r v u d → nkOf d = some (kOf r u) ∧ (kOf r u).depth ≤ n
  | n, .non, d, h, k => by rw [rep_non.mp k]; simp [nkOf, kOf, NestedKey.depth]
  | n, .bl x, d, h, k => by rw [rep_bl.mp k]; simp [nkOf, kOf, NestedKey.depth]
  | n, .int x, d, h, k => by rw [rep_int.mp k]; simp [nkOf, kOf, NestedKey.depth]
  | n, .str x, d, h, k => by rw [rep_str.mp k]; simp [nkOf, kOf, NestedKey.depth]
  | 0, .tup us, d, h, k => by unfold keyU at h; cases h
  | n + 1, .tup us, d, h, k => by
    unfold keyU at h
    obtain ⟨ds, rfl, k1⟩ := rep_tup.mp k
    have key : ∀ (us : List U) (ds : List D), us.all (keyU n) = true → reps r v us ds → nkAll ds = some (kOfs r us) ∧ NestedKey.depthAll (kOfs r us) ≤ n := by
      intro us
      induction us with
      | nil => intro ds _ k; rw [k.nil_iff]; simp [nkAll, kOfs, NestedKey.depthAll]
      | cons u us ih =>
        intro ds h k
        obtain ⟨d, e, rfl, k1, k2⟩ := k.cons_iff
        simp only [List.all_cons, Bool.and_eq_true] at h
        obtain ⟨a1, a2⟩ := nk_rep n u d h.1 k1
        obtain ⟨b1, b2⟩ := ih e h.2 k2
        simp only [nkAll, kOfs, a1, b1, NestedKey.depthAll]
        exact ⟨trivial, by omega⟩
    obtain ⟨a1, a2⟩ := key us ds h k1
    simp only [nkOf, kOf, a1, Option.map_some, NestedKey.depth]
    exact ⟨trivial, by omega⟩
  | 0, .lst us, d, h, k => by unfold keyU at h; cases h
  | n + 1, .lst us, d, h, k => by unfold keyU at h; cases h
  | 0, .dct _ us, d, h, k => by unfold keyU at h; cases h
  | n + 1, .dct _ us, d, h, k => by unfold keyU at h; cases h
  | 0, .tdct _ us, d, h, k => by unfold keyU at h; cases h
  | n + 1, .tdct _ us, d, h, k => by unfold keyU at h; cases h
theorem kOf_eq (R : Rn s r) : ∀ (n : Nat) (x y : U), keyU n x = true → keyU n y = true → (kOf r x = kOf r y ↔ eqU x y = true)
  | n, .non, y, h, k => by cases y <;> simp_all [kOf, eqU, keyU] <;> (cases n <;> simp [keyU] at k)
  | n, .bl a, y, h, k => by
    cases y with
    | bl c => cases a <;> cases c <;> simp [kOf, eqU]
    | int j => cases a <;> simp [kOf, eqU]
    | lst _ => cases n <;> simp [keyU] at k
    | dct _ _ => cases n <;> simp [keyU] at k
    | tdct _ _ => cases n <;> simp [keyU] at k
    | _ => simp [kOf, eqU]
  | n, .int a, y, h, k => by
    cases y with
    | bl c => cases c <;> simp [kOf, eqU]
    | int j => simp [kOf, eqU]
    | lst _ => cases n <;> simp [keyU] at k
    | dct _ _ => cases n <;> simp [keyU] at k
    | tdct _ _ => cases n <;> simp [keyU] at k
    | _ => simp [kOf, eqU]
  | n, .str a, y, h, k => by
    cases y with
    | str z =>
      simp only [kOf, eqU, NestedKey.text.injEq, beq_iff_eq]
      exact ⟨fun w => R.inj _ _ (toS_inj w), fun w => by rw [w]⟩
    | lst _ => cases n <;> simp [keyU] at k
    | dct _ _ => cases n <;> simp [keyU] at k
    | tdct _ _ => cases n <;> simp [keyU] at k
    | _ => simp [kOf, eqU]
  | 0, .tup us, y, h, k => by unfold keyU at h; cases h
  | n + 1, .tup us, y, h, k => by
    unfold keyU at h
    cases y with
    | tup vs =>
      unfold keyU at k
      simp only [kOf, eqU, NestedKey.tup.injEq]
      have key : ∀ (us vs : List U), us.all (keyU n) = true → vs.all (keyU n) = true → (kOfs r us = kOfs r vs ↔ eqUs us vs = true) := by
        intro us
        induction us with
        | nil => intro vs _ _; cases vs <;> simp [kOfs, eqUs]
        | cons u us ih =>
          intro vs h k
          cases vs with
          | nil => simp [kOfs, eqUs]
          | cons w vs =>
            simp only [List.all_cons, Bool.and_eq_true] at h k
            simp only [kOfs, eqUs, List.cons.injEq, Bool.and_eq_true]
            rw [kOf_eq R n u w h.1 k.1, ih vs h.2 k.2]
      exact key us vs h k
    | lst _ => simp [keyU] at k
    | dct _ _ => simp [keyU] at k
    | tdct _ _ => simp [keyU] at k
    | _ => simp [kOf, eqU]
  | 0, .lst us, d, h, k => by unfold keyU at h; cases h
  | n + 1, .lst us, d, h, k => by unfold keyU at h; cases h
  | 0, .dct _ us, d, h, k => by unfold keyU at h; cases h
  | n + 1, .dct _ us, d, h, k => by unfold keyU at h; cases h
  | 0, .tdct _ us, d, h, k => by unfold keyU at h; cases h
  | n + 1, .tdct _ us, d, h, k => by unfold keyU at h; cases h
theorem tGet_ok (R : Rn s r) (x : U) (hx : keyU 8 x = true) : ∀ {kvs : List (D × D)} {ks us : List U}, ks.all (keyU 8) = true → reps r v ks (kvs.map (·.1)) → reps r v us (kvs.map (·.2)) →
    match tGetV ks us x with
    | some u => ∃ d, tGet kvs (kOf r x) = some d ∧ rep r v u d
    | none => tGet kvs (kOf r x) = none
  | [], ks, us, ha, h1, h2 => by
    have : ks = [] := List.eq_nil_of_length_eq_zero (by rw [← h1.length]; rfl)
    subst this
    simp [tGetV, tGet]
  | p :: kvs, ks, us, ha, h1, h2 => by
    cases ks with
    | nil => have := h1.nil_iff; simp at this
    | cons a l =>
      cases us with
      | nil => have := h2.nil_iff; simp at this
      | cons u us =>
        obtain ⟨d1, x1, e1, k1, k2⟩ := h1.cons_iff
        obtain ⟨d2, x2, e2, k3, k4⟩ := h2.cons_iff
        simp at e1 e2
        obtain ⟨rfl, rfl⟩ := e1
        obtain ⟨rfl, rfl⟩ := e2
        simp only [List.all_cons, Bool.and_eq_true] at ha
        have ih := tGet_ok R x hx ha.2 k2 k4
        unfold tGetV tGet
        rw [(nk_rep 8 a p.1 ha.1 k1).1]
        by_cases q : eqU a x = true
        · rw [if_pos q, if_pos (by rw [(kOf_eq R 8 a x ha.1 hx).mpr q])]
          exact ⟨_, rfl, k3⟩
        · rw [if_neg q, if_neg (fun z => q ((kOf_eq R 8 a x ha.1 hx).mp (Option.some.inj z)))]
          exact ih
theorem ov_tix (R : Rn s r) : OpV r b tixO tixV := fun L H S x y u a c lk nl hb h1 h2 e => by
  unfold tixV at e
  split at e
  · split at e
    · rename_i q
      rw [Bool.and_eq_true] at q
      obtain ⟨n, l, kvs, rfl, g, k1, k2⟩ := r1_tdct h1
      obtain ⟨ds, rfl, k3⟩ := r1_tup h2
      have := tGet_ok R _ q.1 q.2 k1 k2
      rw [e] at this
      obtain ⟨d, e1, e2⟩ := this
      obtain ⟨a1, a2⟩ := nk_rep (r := r) (v := vis H S) 8 _ (.tup ds) q.1 (rep_tup.mpr ⟨ds, rfl, k3⟩)
      exact ⟨d, S, by simp only [tixO, tdAt, g, Option.bind_some, a1]; rw [if_pos a2, e1]; rfl, .refl, e2⟩
    · cases e
  · cases e
end
end Al

set_option Elab.async false
set_option linter.all false
set_option maxRecDepth 100000
set_option maxHeartbeats 1000000
/-! Vs: builtins, methods. -/
namespace Al
open PySem
def lenV (s : Sy) : List U → Option U
  | [.str x] => if s.free x && decide (x.length ≤ lim) then some (.int x.length) else none
  | [.tup us] => some (.int us.length)
  | [.lst us] => some (.int us.length)
  | _ => none
def intV : List U → Option U
  | [.int i] => some (.int i)
  | _ => none
def minV : List U → Option U
  | [.int i, .int j] => some (.int (if j < i then j else i))
  | _ => none
def asBlU : U → Option Bool
  | .bl b => some b
  | _ => none
def asIntU : U → Option Int
  | .int b => some b
  | _ => none
def allV : List U → Option U
  | [.lst us] => (mapO asBlU us).map fun l => .bl (l.all id)
  | _ => none
def anyV : List U → Option U
  | [.lst us] => (mapO asBlU us).map fun l => .bl (l.any id)
  | _ => none
def sumV : List U → Option U
  | [.lst us] => (mapO asIntU us).map fun l => .int l.sum
  | _ => none
def listV : List U → Option U
  | [.tup us] => some (.lst us)
  | [.lst us] => some (.lst us)
  | _ => none
def tupleV : List U → Option U
  | [.tup us] => some (.tup us)
  | [.lst us] => some (.tup us)
  | _ => none
def lenDV : List U → Option U
  | [.dct ks _] => some (.int (ks.length : Nat))
  | _ => none
def dictV : List U → Option U
  | [.dct ks us] => some (.dct ks us)
  | _ => none
def listDV : List U → Option U
  | [.dct ks _] => some (.lst (ks.map .str))
  | _ => none
/-- sorting makes sense: all free, or all renamed -/
def srtS (s : Sy) (l : List Txt) : Bool := l.all s.free || l.all s.K0.contains
def sortedDV (s : Sy) : List U → Option U
  | [.dct ks _] => if srtS s ks && decide (ks.length < 64) then some (.lst ((sortT ks).map .str)) else none
  | _ => none
def sortedV (s : Sy) : List U → Option U
  | [.lst us] => (mapO asStrU us).bind fun l => if srtS s l && decide (l.length < lim) then some (.lst ((sortT l).map .str)) else none
  | _ => none
def reprBV : List U → Option U
  | [.bl k] => some (.bl k)
  | _ => none
section
variable {s : Sy} {r : Txt → Txt} {b : Bool} {v : View}
theorem all2_1 {R : U → D → Prop} {u : U} {as : List D} (h : all2 R [u] as) : ∃ d, as = [d] ∧ R u d := by
  obtain ⟨d, e, rfl, h1, h2⟩ := h
  cases h2
  exact ⟨d, rfl, h1⟩
theorem all2_2 {R : U → D → Prop} {u w : U} {as : List D} (h : all2 R [u, w] as) : ∃ d e, as = [d, e] ∧ R u d ∧ R w e := by
  obtain ⟨d, e, rfl, h1, h2⟩ := h
  obtain ⟨x, rfl, h3⟩ := all2_1 h2
  exact ⟨d, x, rfl, h1, h3⟩
theorem cv_len (R : Rn s r) : CallV r b lenF (lenV s) := fun L H S xs u as lk nl hb h e => by
  unfold lenV at e
  split at e
  · split at e
    · rename_i q
      cases e
      simp only [Bool.and_eq_true, decide_eq_true_eq] at q
      obtain ⟨d, rfl, h1⟩ := all2_1 h
      obtain rfl := r1_str h1
      rw [R.fix _ q.1]
      exact ⟨_, S, by simp only [lenF]; rw [if_pos q.2], .refl, rep_int.mpr rfl⟩
    · cases e
  · cases e
    obtain ⟨d, rfl, h1⟩ := all2_1 h
    obtain ⟨ds, rfl, k⟩ := r1_tup h1
    exact ⟨_, S, rfl, .refl, rep_int.mpr (by rw [k.length])⟩
  · cases e
    obtain ⟨d, rfl, h1⟩ := all2_1 h
    obtain ⟨n, ds, rfl, g, k⟩ := r1_lst h1
    exact ⟨.int ds.length, S, by simp only [lenF, g], .refl, rep_int.mpr (by rw [k.length])⟩
  · cases e
theorem cv_int : CallV r b intF intV := fun L H S xs u as lk nl hb h e => by
  unfold intV at e
  split at e
  · cases e
    obtain ⟨d, rfl, h1⟩ := all2_1 h
    obtain rfl := r1_int h1
    exact ⟨_, S, rfl, .refl, rep_int.mpr rfl⟩
  · cases e
theorem cv_min : CallV r b minF minV := fun L H S xs u as lk nl hb h e => by
  unfold minV at e
  split at e
  · cases e
    obtain ⟨d, d', rfl, h1, h2⟩ := all2_2 h
    obtain rfl := r1_int h1; obtain rfl := r1_int h2
    exact ⟨_, S, rfl, .refl, rep_int.mpr rfl⟩
  · cases e
theorem reps.bls {us : List U} {l : List Bool} : ∀ {ds : List D}, reps r v us ds → mapO asBlU us = some l → mapO asBl ds = some l := by
  induction us generalizing l with
  | nil => intro ds h e; cases e; rw [h.nil_iff]; rfl
  | cons u us ih =>
    intro ds h e
    obtain ⟨d, x, rfl, h1, h2⟩ := h.cons_iff
    simp only [mapO] at e
    split at e
    · rename_i y ys e1 e2
      cases e
      cases u <;> simp [asBlU] at e1
      subst e1
      obtain rfl := rep_bl.mp h1
      simp [mapO, asBl, ih h2 e2]
    · cases e
theorem reps.ints {us : List U} {l : List Int} : ∀ {ds : List D}, reps r v us ds → mapO asIntU us = some l → mapO asInt ds = some l := by
  induction us generalizing l with
  | nil => intro ds h e; cases e; rw [h.nil_iff]; rfl
  | cons u us ih =>
    intro ds h e
    obtain ⟨d, x, rfl, h1, h2⟩ := h.cons_iff
    simp only [mapO] at e
    split at e
    · rename_i y ys e1 e2
      cases e
      cases u <;> simp [asIntU] at e1
      subst e1
      obtain rfl := rep_int.mp h1
      simp [mapO, asInt, ih h2 e2]
    · cases e
theorem cv_all : CallV r b allF allV := fun L H S xs u as lk nl hb h e => by
  unfold allV at e
  split at e
  · obtain ⟨l, e1, rfl⟩ := Option.map_eq_some_iff.mp e
    obtain ⟨d, rfl, h1⟩ := all2_1 h
    obtain ⟨n, ds, rfl, g, k⟩ := r1_lst h1
    exact ⟨_, S, by simp only [allF, lstAt_of S g, Option.bind_some, k.bls e1, Option.map_some], .refl, rep_bl.mpr rfl⟩
  · cases e
theorem cv_any : CallV r b anyF anyV := fun L H S xs u as lk nl hb h e => by
  unfold anyV at e
  split at e
  · obtain ⟨l, e1, rfl⟩ := Option.map_eq_some_iff.mp e
    obtain ⟨d, rfl, h1⟩ := all2_1 h
    obtain ⟨n, ds, rfl, g, k⟩ := r1_lst h1
    exact ⟨_, S, by simp only [anyF, lstAt_of S g, Option.bind_some, k.bls e1, Option.map_some], .refl, rep_bl.mpr rfl⟩
  · cases e
theorem cv_sum : CallV r b sumF sumV := fun L H S xs u as lk nl hb h e => by
  unfold sumV at e
  split at e
  · obtain ⟨l, e1, rfl⟩ := Option.map_eq_some_iff.mp e
    obtain ⟨d, rfl, h1⟩ := all2_1 h
    obtain ⟨n, ds, rfl, g, k⟩ := r1_lst h1
    exact ⟨_, S, by simp only [sumF, lstAt_of S g, Option.bind_some, k.ints e1, Option.map_some], .refl, rep_int.mpr rfl⟩
  · cases e
theorem cv_list : CallV r b listF listV := fun L H S xs u as lk nl hb h e => by
  unfold listV at e
  split at e
  · cases e
    obtain ⟨d, rfl, h1⟩ := all2_1 h
    obtain ⟨ds, rfl, k⟩ := r1_tup h1
    obtain ⟨n1, n2⟩ := newL (L := L) hb k
    exact ⟨_, _, rfl, n1, n2⟩
  · cases e
    obtain ⟨d, rfl, h1⟩ := all2_1 h
    obtain ⟨n, ds, rfl, g, k⟩ := r1_lst h1
    obtain ⟨n1, n2⟩ := newL (L := L) hb k
    exact ⟨_, _, by simp only [listF, lstAt_of S g, Option.map_some], n1, n2⟩
  · cases e
theorem cv_tuple : CallV r b tupleF tupleV := fun L H S xs u as lk nl hb h e => by
  unfold tupleV at e
  split at e
  · cases e
    obtain ⟨d, rfl, h1⟩ := all2_1 h
    obtain ⟨ds, rfl, k⟩ := r1_tup h1
    exact ⟨_, S, rfl, .refl, rep_tup.mpr ⟨ds, rfl, k⟩⟩
  · cases e
    obtain ⟨d, rfl, h1⟩ := all2_1 h
    obtain ⟨n, ds, rfl, g, k⟩ := r1_lst h1
    exact ⟨_, S, by simp only [tupleF, lstAt_of S g, Option.map_some], .refl, rep_tup.mpr ⟨ds, rfl, k⟩⟩
  · cases e
theorem cv_lenD : CallV r b lenDF lenDV := fun L H S xs u as lk nl hb h e => by
  unfold lenDV at e
  split at e
  · rename_i ks us
    cases e
    obtain ⟨d, rfl, h1⟩ := all2_1 h
    obtain ⟨n, kvs, rfl, g, k1, k2⟩ := r1_dct h1
    have : kvs.length = ks.length := by simpa using congrArg List.length k1
    exact ⟨.int (kvs.length : Nat), S, by simp only [lenDF, rd_of g, Option.map_some], .refl, rep_int.mpr (by rw [this])⟩
  · cases e
theorem cv_dict : CallV r b dictF dictV := fun L H S xs u as lk nl hb h e => by
  unfold dictV at e
  split at e
  · cases e
    obtain ⟨d, rfl, h1⟩ := all2_1 h
    obtain ⟨n, kvs, rfl, g, k1, k2⟩ := r1_dct h1
    obtain ⟨n1, n2⟩ := newD (L := L) hb k1 k2
    exact ⟨_, _, by simp only [dictF, rd_of g, Option.map_some], n1, n2⟩
  · cases e
theorem cv_listD : CallV r b listDF listDV := fun L H S xs u as lk nl hb h e => by
  unfold listDV at e
  split at e
  · rename_i ks us
    cases e
    obtain ⟨d, rfl, h1⟩ := all2_1 h
    obtain ⟨n, kvs, rfl, g, k1, k2⟩ := r1_dct h1
    have k3 : (kvs.map fun p => D.str p.1) = (ks.map r).map .str := by rw [← k1, List.map_map]; rfl
    obtain ⟨n1, n2⟩ := newL (L := L) (ds := kvs.map fun p => D.str p.1) hb (by rw [k3]; exact reps.of_strs (r := r) ks)
    exact ⟨_, _, by simp only [listDF, rd_of g, Option.map_some], n1, n2⟩
  · cases e
theorem sortT_r (R : Rn s r) {l : List Txt} (h : srtS s l = true) : sortT (l.map r) = (sortT l).map r := by
  have le : ∀ x ∈ l, ∀ y ∈ l, leT (r x) (r y) = leT x y := by
    unfold srtS at h
    rw [Bool.or_eq_true] at h
    intro x hx y hy
    rcases h with h | h
    · rw [R.fix _ (List.all_eq_true.mp h x hx), R.fix _ (List.all_eq_true.mp h y hy)]
    · exact R.mono _ _ (by simpa using List.all_eq_true.mp h x hx) (by simpa using List.all_eq_true.mp h y hy)
  clear h
  have ins : ∀ (x : Txt) (l : List Txt), (∀ y ∈ l, leT (r x) (r y) = leT x y) → insT (r x) (l.map r) = (insT x l).map r := by
    intro x l
    induction l with
    | nil => intro _; rfl
    | cons y l ih =>
      intro h
      simp only [List.map_cons, insT]
      rw [h y List.mem_cons_self]
      split
      · rfl
      · rw [List.map_cons, ih fun z hz => h z (List.mem_cons_of_mem _ hz)]
  induction l with
  | nil => rfl
  | cons x l ih =>
    simp only [List.map_cons, sortT]
    rw [ih fun a ha c hc => le a (List.mem_cons_of_mem _ ha) c (List.mem_cons_of_mem _ hc)]
    exact ins x _ fun y hy => le x List.mem_cons_self y (List.mem_cons_of_mem _ ((sortT_perm l).mem_iff.mp hy))
theorem dedT_r (R : Rn s r) (l : List Txt) : dedT (l.map r) = (dedT l).map r := by
  induction l with
  | nil => rfl
  | cons x l ih =>
    simp only [List.map_cons, dedT]
    have : (l.map r).contains (r x) = l.contains x := by
      rw [Bool.eq_iff_iff]
      simp only [List.contains_iff_mem, List.mem_map]
      exact ⟨fun ⟨y, h1, h2⟩ => R.inj _ _ h2 ▸ h1, fun h => ⟨x, h, rfl⟩⟩
    rw [this]
    split
    · exact ih
    · rw [List.map_cons, ih]
theorem cv_sortedD (R : Rn s r) : CallV r b sortedDF (sortedDV s) := fun L H S xs u as lk nl hb h e => by
  unfold sortedDV at e
  split at e
  · rename_i ks us
    split at e
    · rename_i q
      cases e
      simp only [Bool.and_eq_true, decide_eq_true_eq] at q
      obtain ⟨d, rfl, h1⟩ := all2_1 h
      obtain ⟨n, kvs, rfl, g, k1, k2⟩ := r1_dct h1
      have ln : kvs.length = ks.length := by simpa using congrArg List.length k1
      have k3 : (sortT (kvs.map (·.1))).map D.str = ((sortT ks).map r).map .str := by rw [k1, sortT_r R q.1]
      obtain ⟨n1, n2⟩ := newL (L := L) (ds := (sortT (kvs.map (·.1))).map D.str) hb (by rw [k3]; exact reps.of_strs (r := r) (sortT ks))
      exact ⟨_, _, by simp only [sortedDF, rd_of g, Option.bind_some]; rw [if_pos (by rw [ln]; exact q.2)], n1, n2⟩
    · cases e
  · cases e
theorem strsOf_r {H : List Nat} {S : Store} {us : List U} {l : List Txt} {d : D} (h : rep1 r H S (.lst us) d) (e : mapO asStrU us = some l) : strsOf d S = some (l.map r) := by
  obtain ⟨n, ds, rfl, g, k⟩ := r1_lst h
  simp only [strsOf, lstAt_of S g, Option.bind_some]
  exact k.strs e
theorem cv_sorted (R : Rn s r) : CallV r b sortedF (sortedV s) := fun L H S xs u as lk nl hb h e => by
  unfold sortedV at e
  split at e
  · obtain ⟨l, e1, e⟩ := bnd e
    split at e
    · rename_i q
      cases e
      simp only [Bool.and_eq_true, decide_eq_true_eq] at q
      obtain ⟨d, rfl, h1⟩ := all2_1 h
      obtain ⟨n1, n2⟩ := newL (L := L) (ds := (sortT (l.map r)).map D.str) hb (by rw [sortT_r R q.1]; exact reps.of_strs (r := r) (sortT l))
      exact ⟨_, _, by simp only [sortedF, strsOf_r h1 e1, Option.bind_some]; rw [if_pos (by simpa using q.2)], n1, n2⟩
    · cases e
  · cases e
end
/-! ### isinstance, sets, slices, get, join -/
def kdU : U → Option Kd
  | .non => some .non
  | .bl _ => some .bl
  | .int _ => some .int
  | .str _ => some .str
  | .tup _ => some .tup
  | .lst _ => some .lst
  | _ => none
def kdUd : U → Option Kd
  | .non => some .non
  | .bl _ => some .bl
  | .int _ => some .int
  | .str _ => some .str
  | .tup _ => some .tup
  | .lst _ => some .lst
  | .dct _ _ => some .dct
  | _ => none
def vIsi (t : Kd → Bool) (a : VF) : VF := fun σ => (a σ).bind fun x => (kdU x).map fun k => .bl (t k)
def vIsiD (t : Kd → Bool) (a : VF) : VF := fun σ => (a σ).bind fun x => (kdUd x).map fun k => .bl (t k)
def strsU : U → Option (List Txt)
  | .lst us => mapO asStrU us
  | _ => none
def vSortSet (s : Sy) (a : VF) : VF := fun σ => (a σ).bind fun x => (strsU x).bind fun l => if srtS s (dedT l) && decide (l.length < 4000) then some (.lst ((sortT (dedT l)).map .str)) else none
def vLenSet (a : VF) : VF := fun σ => (a σ).bind fun x => (strsU x).bind fun l => if l.length < 4000 then some (.int ((dedT l).length : Nat)) else none
def sliceV (s : Sy) : U → Option Int → Option Int → Option U
  | .tup us, lo, hi => some (.tup (cutL us lo hi))
  | .str x, lo, hi => if s.free x && s.free (cutL x lo hi) && decide (x.length ≤ lim) then some (.str (cutL x lo hi)) else none
  | .lst us, lo, hi => some (.lst (cutL us lo hi))
  | _, _, _ => none
def vSl (s : Sy) (a : VF) (lo hi : VEnv → Option (Option Int)) : VF := fun σ => (a σ).bind fun x => (lo σ).bind fun l => (hi σ).bind fun u => sliceV s x l u
def getV : U → U → U → Option U
  | .dct ks us, .str k, z => some ((dGetV ks us k).getD z)
  | _, _, _ => none
def vGet1 (o k : VF) : VF := fun σ => (o σ).bind fun x => (k σ).bind fun y => getV x y .non
def vGet2 (o k z : VF) : VF := fun σ => (o σ).bind fun x => (k σ).bind fun y => (z σ).bind fun w => getV x y w
def joinV (s : Sy) : U → U → Option U
  | .str t, .tup us => (mapO asStrU us).bind fun l => if s.free t && l.all s.free && s.free (joinL t l) && decide ((l.map List.length).sum + l.length * t.length ≤ lim) then some (.str (joinL t l)) else none
  | .str t, .lst us => (mapO asStrU us).bind fun l => if s.free t && l.all s.free && s.free (joinL t l) && decide ((l.map List.length).sum + l.length * t.length ≤ lim) then some (.str (joinL t l)) else none
  | _, _ => none
def vJoinT (s : Sy) (o a : VF) : VF := fun σ => (o σ).bind fun x => (a σ).bind fun y => match y with
  | .tup _ => joinV s x y
  | _ => none
def vJoinL (s : Sy) (o a : VF) : VF := fun σ => (o σ).bind fun x => (a σ).bind fun y => match y with
  | .lst _ => joinV s x y
  | _ => none
def vRev (a : VF) : VF := fun σ => (a σ).bind fun x => match x with
  | .lst us => some (.lst us.reverse)
  | _ => none
section
variable {s : Sy} {r : Txt → Txt} {b : Bool} {own : List Nat} {v : View}
theorem kd_r {H : List Nat} {S : Store} {x : U} {d : D} {k : Kd} (h : rep1 r H S x d) (e : kdU x = some k) : kdOf d S = some k := by
  cases x <;> simp [kdU] at e <;> subst e
  · obtain rfl := r1_non h; rfl
  · obtain rfl := r1_bl h; rfl
  · obtain rfl := r1_int h; rfl
  · obtain rfl := r1_str h; rfl
  · obtain ⟨_, rfl, _⟩ := r1_tup h; rfl
  · obtain ⟨_, _, rfl, g, _⟩ := r1_lst h; simp [kdOf, g]
theorem kdd_r {H : List Nat} {S : Store} (nl : Nl [] S) {x : U} {d : D} {k : Kd} (h : rep1 r H S x d) (e : kdUd x = some k) : kdOf d S = some k := by
  cases x with
  | dct ks us =>
    simp [kdUd] at e; subst e
    obtain ⟨kvs, g, _⟩ := h
    obtain ⟨n, rfl, g, _⟩ := datV_nl nl g
    simp [kdOf, g]
  | _ => exact kd_r h e
theorem sp_isi {t : Kd → Bool} {ea : EF} {va : VF} (h : SL r b own ea va) : SP r b own (eIsi t ea) (vIsi t va) := fun c ρ S σ u I e => by
  obtain ⟨x, e1, e⟩ := bnd e
  obtain ⟨k, e2, rfl⟩ := Option.map_eq_some_iff.mp e
  obtain ⟨d, S1, a1, a2, a3⟩ := h c ρ S σ x I e1
  exact ⟨_, S1, by simp [eIsi, a1, kd_r a3 e2], a2, rep_bl.mpr rfl⟩
theorem sp_isiD {t : Kd → Bool} {ea : EF} {va : VF} (h : SL r true own ea va) : SP r true own (eIsi t ea) (vIsiD t va) := fun c ρ S σ u I e => by
  obtain ⟨x, e1, e⟩ := bnd e
  obtain ⟨k, e2, rfl⟩ := Option.map_eq_some_iff.mp e
  obtain ⟨d, S1, a1, a2, a3⟩ := h c ρ S σ x I e1
  have nl := (I.grow a2).nl
  rw [I.lk rfl] at nl
  exact ⟨_, S1, by simp [eIsi, a1, kdd_r nl a3 e2], a2, rep_bl.mpr rfl⟩
theorem sp_sortSet (R : Rn s r) {ea : EF} {va : VF} (h : SL r b own ea va) : SP r b own (eSortSet ea) (vSortSet s va) := fun c ρ S σ u I e => by
  obtain ⟨x, e1, e⟩ := bnd e
  obtain ⟨l, e2, e⟩ := bnd e
  split at e
  · rename_i q
    cases e
    simp only [Bool.and_eq_true, decide_eq_true_eq] at q
    obtain ⟨d, S1, a1, a2, a3⟩ := h c ρ S σ x I e1
    cases x <;> simp [strsU] at e2
    obtain ⟨n1, n2⟩ := newL (L := c.L) (ds := (sortT (dedT (l.map r))).map D.str) (I.grow a2).hb (by rw [dedT_r R, sortT_r R q.1]; exact reps.of_strs (r := r) (sortT (dedT l)))
    exact ⟨_, _, by simp only [eSortSet, a1, Res.bind_ok, strsOf_r a3 e2]; rw [if_pos (by simpa using q.2)], a2.trans n1, n2⟩
  · cases e
theorem sp_lenSet (R : Rn s r) {ea : EF} {va : VF} (h : SL r b own ea va) : SP r b own (eLenSet ea) (vLenSet va) := fun c ρ S σ u I e => by
  obtain ⟨x, e1, e⟩ := bnd e
  obtain ⟨l, e2, e⟩ := bnd e
  split at e
  · rename_i q
    cases e
    obtain ⟨d, S1, a1, a2, a3⟩ := h c ρ S σ x I e1
    cases x <;> simp [strsU] at e2
    exact ⟨_, S1, by simp only [eLenSet, a1, Res.bind_ok, strsOf_r a3 e2]; rw [if_pos (by simpa using q)], a2, rep_int.mpr (by rw [dedT_r R, List.length_map])⟩
  · cases e
theorem reps.cut {us : List U} {ds : List D} (h : reps r v us ds) (lo hi : Option Int) : reps r v (cutL us lo hi) (cutL ds lo hi) := by
  unfold cutL
  rw [h.length]
  exact (h.drop _).take _
theorem sp_sl (R : Rn s r) {ea : EF} {lo hi : PF} {va : VF} {vl vh : VEnv → Option (Option Int)} (h : SL r b own ea va) (hl : SO r b own lo vl) (hh : SO r b own hi vh) : SP r b own (eSl ea lo hi) (vSl s va vl vh) := fun c ρ S σ u I e => by
  obtain ⟨x, e1, e⟩ := bnd e
  obtain ⟨l, e2, e⟩ := bnd e
  obtain ⟨k, e3, e⟩ := bnd e
  obtain ⟨d, S1, a1, a2, a3⟩ := h c ρ S σ x I e1
  have I1 := I.grow a2
  obtain ⟨S2, c1, c2⟩ := hl c ρ S1 σ l I1 e2
  have I2 := I1.grow c2
  obtain ⟨S3, f1, f2⟩ := hh c ρ S2 σ k I2 e3
  have I3 := I2.grow f2
  have a4 := a3.pre (c2.pre.trans f2.pre)
  have G := (a2.trans c2).trans f2
  unfold sliceV at e
  split at e
  · cases e
    obtain ⟨ds, rfl, k1⟩ := r1_tup a4
    exact ⟨_, S3, by simp [eSl, a1, c1, f1, sliceO, Res.of], G, rep_tup.mpr ⟨_, rfl, k1.cut _ _⟩⟩
  · split at e
    · rename_i q
      cases e
      simp only [Bool.and_eq_true, decide_eq_true_eq] at q
      obtain rfl := r1_str a4
      refine ⟨_, S3, by simp only [eSl, a1, c1, f1, sliceO, Res.bind_ok]; rw [R.fix _ q.1.1, if_pos q.2]; rfl, G, rep_str.mpr (by rw [R.fix _ q.1.2])⟩
    · cases e
  · cases e
    obtain ⟨n, ds, rfl, g, k1⟩ := r1_lst a4
    obtain ⟨n1, n2⟩ := newL (L := c.L) I3.hb (k1.cut l k)
    exact ⟨_, _, by simp only [eSl, a1, c1, f1, sliceO, Res.bind_ok, lstAt_of S3 g, Option.map_some, Res.of], G.trans n1, n2⟩
  · cases e
theorem isDc_r {H : List Nat} {S : Store} {ks : List Txt} {us : List U} {d : D} (h : rep1 r H S (.dct ks us) d) : isDc d S = true := by
  obtain ⟨n, kvs, rfl, g, _⟩ := r1_dct h
  simp [isDc, rd_of g]
theorem get_r (R : Rn s r) {H : List Nat} {S : Store} {ks : List Txt} {us : List U} {d z : D} {k : Txt} {w : U} (h : rep1 r H S (.dct ks us) d) (hz : rep r (vis H S) w z) : ∃ y, getO d (.str (r k)) z S = some (y, S) ∧ rep r (vis H S) ((dGetV ks us k).getD w) y := by
  obtain ⟨n, kvs, rfl, g, k1, k2⟩ := r1_dct h
  have := dGet_ok R k k1 k2
  cases q : dGetV ks us k with
  | none =>
    rw [q] at this
    exact ⟨z, by simp only [getO, rd_of g, Option.map_some]; rw [this]; rfl, hz⟩
  | some u =>
    rw [q] at this
    obtain ⟨y, e1, e2⟩ := this
    exact ⟨y, by simp only [getO, rd_of g, Option.map_some]; rw [e1]; rfl, e2⟩
theorem sp_get1 (R : Rn s r) {eo ek : EF} {vo vk : VF} (ho : SL r b own eo vo) (hk : SL r b own ek vk) : SP r b own (eGet1 eo ek) (vGet1 vo vk) := fun c ρ S σ u I e => by
  obtain ⟨x, e1, e⟩ := bnd e
  obtain ⟨y, e2, e⟩ := bnd e
  obtain ⟨d, S1, a1, a2, a3⟩ := ho c ρ S σ x I e1
  have I1 := I.grow a2
  obtain ⟨d2, S2, c1, c2, c3⟩ := hk c ρ S1 σ y I1 e2
  unfold getV at e
  split at e
  · cases e
    obtain rfl := r1_str c3
    obtain ⟨z, g1, g2⟩ := get_r (w := .non) (z := .non) R (a3.pre c2.pre) (rep_non.mpr rfl)
    exact ⟨z, S2, by simp only [eGet1, a1, Res.bind_ok]; rw [if_pos (isDc_r a3), c1, Res.bind_ok, g1]; rfl, a2.trans c2, g2⟩
  · cases e
theorem sp_get2 (R : Rn s r) {eo ek ez : EF} {vo vk vz : VF} (ho : SL r b own eo vo) (hk : SL r b own ek vk) (hz : SP r b own ez vz) : SP r b own (eGet2 getO eo ek ez) (vGet2 vo vk vz) := fun c ρ S σ u I e => by
  obtain ⟨x, e1, e⟩ := bnd e
  obtain ⟨y, e2, e⟩ := bnd e
  obtain ⟨w, e3, e⟩ := bnd e
  obtain ⟨d, S1, a1, a2, a3⟩ := ho c ρ S σ x I e1
  have I1 := I.grow a2
  obtain ⟨d2, S2, c1, c2, c3⟩ := hk c ρ S1 σ y I1 e2
  have I2 := I1.grow c2
  obtain ⟨d3, S3, f1, f2, f3⟩ := hz c ρ S2 σ w I2 e3
  unfold getV at e
  split at e
  · cases e
    obtain rfl := r1_str c3
    obtain ⟨z, g1, g2⟩ := get_r R (a3.pre (c2.pre.trans f2.pre)) f3
    exact ⟨z, S3, by simp only [eGet2, a1, Res.bind_ok]; rw [if_pos (isDc_r a3), c1, Res.bind_ok, f1, Res.bind_ok, g1]; rfl, (a2.trans c2).trans f2, g2⟩
  · cases e
theorem free_map (R : Rn s r) : ∀ l : List Txt, l.all s.free = true → l.map r = l
  | [], _ => rfl
  | x :: l, h => by
    simp only [List.all_cons, Bool.and_eq_true] at h
    rw [List.map_cons, R.fix _ h.1, free_map R l h.2]
theorem sp_joinT (R : Rn s r) {eo ea : EF} {vo va : VF} (ho : SL r b own eo vo) (ha : SL r b own ea va) : SP r b own (eM "str" joinTM eo (aCons ea aNil)) (vJoinT s vo va) := fun c ρ S σ u I e => by
  obtain ⟨x, e1, e⟩ := bnd e
  obtain ⟨y, e2, e⟩ := bnd e
  obtain ⟨d, S1, a1, a2, a3⟩ := ho c ρ S σ x I e1
  obtain ⟨d2, S2, c1, c2, c3⟩ := ha c ρ S1 σ y (I.grow a2) e2
  split at e
  case h_2 => cases e
  rename_i us
  cases x <;> simp only [joinV] at e
  all_goals try cases e
  rename_i t
  obtain ⟨l, e3, e⟩ := bnd e
  split at e
  case isFalse => cases e
  rename_i q
  cases e
  simp only [Bool.and_eq_true, decide_eq_true_eq] at q
  obtain rfl := r1_str a3
  obtain ⟨ds, rfl, k1⟩ := r1_tup c3
  have k2 := k1.strs e3
  rw [free_map R l q.1.1.2] at k2
  rw [R.fix _ q.1.1.1] at a1
  exact ⟨_, S2, by simp only [eM, a1, Res.bind_ok]; rw [if_pos (by rfl)]; simp only [aCons, aNil, c1, Res.bind_ok, joinTM, k2, Option.bind_some]; rw [if_pos q.2]; rfl, a2.trans c2, rep_str.mpr (by rw [R.fix _ q.1.2])⟩
theorem sp_joinL (R : Rn s r) {eo ea : EF} {vo va : VF} (ho : SL r b own eo vo) (ha : SL r b own ea va) : SP r b own (eM "str" joinM eo (aCons ea aNil)) (vJoinL s vo va) := fun c ρ S σ u I e => by
  obtain ⟨x, e1, e⟩ := bnd e
  obtain ⟨y, e2, e⟩ := bnd e
  obtain ⟨d, S1, a1, a2, a3⟩ := ho c ρ S σ x I e1
  obtain ⟨d2, S2, c1, c2, c3⟩ := ha c ρ S1 σ y (I.grow a2) e2
  split at e
  case h_2 => cases e
  rename_i us
  cases x <;> simp only [joinV] at e
  all_goals try cases e
  rename_i t
  obtain ⟨l, e3, e⟩ := bnd e
  split at e
  case isFalse => cases e
  rename_i q
  cases e
  simp only [Bool.and_eq_true, decide_eq_true_eq] at q
  obtain rfl := r1_str a3
  obtain ⟨n, ds, rfl, g, k1⟩ := r1_lst c3
  have k2 := k1.strs e3
  rw [free_map R l q.1.1.2] at k2
  rw [R.fix _ q.1.1.1] at a1
  exact ⟨_, S2, by simp only [eM, a1, Res.bind_ok]; rw [if_pos (by rfl)]; simp only [aCons, aNil, c1, Res.bind_ok, joinM, lstAt_of S2 g, k2, Option.bind_some]; rw [if_pos q.2]; rfl, a2.trans c2, rep_str.mpr (by rw [R.fix _ q.1.2])⟩
theorem sp_rev {ea es : EF} {va : VF} (ha : SL r b own ea va) (hs : ∀ ρ S, es ρ S = .ok (.int (-1)) S) : SP r b own (eRev ea es) (vRev va) := fun c ρ S σ u I e => by
  obtain ⟨x, e1, e⟩ := bnd e
  obtain ⟨d, S1, a1, a2, a3⟩ := ha c ρ S σ x I e1
  cases x <;> simp at e
  subst e
  obtain ⟨n, ds, rfl, g, k1⟩ := r1_lst a3
  obtain ⟨n1, n2⟩ := newL (L := c.L) (I.grow a2).hb k1.reverse
  exact ⟨_, _, by simp [eRev, a1, hs, g], a2.trans n1, n2⟩
end
end Al

set_option Elab.async false
set_option linter.all false
set_option maxRecDepth 100000
set_option maxHeartbeats 1000000
/-! Vs: what is walked; comprehensions. -/
namespace Al
open PySem
/-! ### targets -/
def setAllU : List Nat → List U → VEnv → VEnv
  | i :: is, d :: ds, ρ => setAllU is ds (ρ.set i (some d))
  | _, _, ρ => ρ
def tgU : Tg → U → VEnv → Option VEnv
  | .nm i, u, σ => some (σ.set i (some u))
  | .tp is, .tup us, σ => if us.length = is.length then some (setAllU is us σ) else none
  | _, _, _ => none
section
variable {r : Txt → Txt} {b : Bool} {own : List Nat} {c : Cv} {ρ : Env} {S : Store} {σ : VEnv}
theorem setAll_ok : ∀ (is : List Nat) (us : List U) (ds : List D) (ρ : Env) (σ : VEnv), (∀ i ∈ is, i ∉ own) → Iv r b own c ρ S σ → reps r (vis c.H S) us ds → Iv r b own c (setAll is ds ρ) S (setAllU is us σ)
  | [], us, ds, ρ, σ, _, I, _ => by simpa [setAll, setAllU] using I
  | i :: is, [], ds, ρ, σ, _, I, h => by rw [h.nil_iff]; simpa [setAll, setAllU] using I
  | i :: is, u :: us, ds, ρ, σ, hi, I, h => by
    obtain ⟨d, e, rfl, h1, h2⟩ := h.cons_iff
    exact setAll_ok is us e _ _ (fun j hj => hi j (List.mem_cons_of_mem _ hj)) (I.set (hi i List.mem_cons_self) h1) h2
theorem tg_ok {t : Tg} {u : U} {d : D} {σ1 : VEnv} (hi : ∀ i ∈ t.slots, i ∉ own) (I : Iv r b own c ρ S σ) (h : rep r (vis c.H S) u d) (e : tgU t u σ = some σ1) : ∃ ρ1, tgD t d ρ = some ρ1 ∧ Iv r b own c ρ1 S σ1 := by
  unfold tgU at e
  split at e
  · cases e
    exact ⟨_, rfl, I.set (hi _ (by simp [Tg.slots])) h⟩
  · split at e
    · rename_i q
      cases e
      obtain ⟨ds, rfl, h1⟩ := rep_tup.mp h
      exact ⟨_, by simp only [tgD]; rw [if_pos (by rw [h1.length]; exact q)], setAll_ok _ _ _ _ _ hi I h1⟩
    · cases e
  · cases e
end
/-! ### sources -/
def itemsU (s : Sy) : U → Option (List U)
  | .tup us => some us
  | .lst us => some us
  | .str x => if s.free x && x.all (fun c => s.free [c]) then some (x.map fun c => .str [c]) else none
  | _ => none
def vIt (s : Sy) (a : VF) : VA := fun σ => (a σ).bind (itemsU s)
def enumU : Nat → List U → List U
  | _, [] => []
  | n, u :: us => .tup [.int (n : Nat), u] :: enumU (n + 1) us
def enumD : Nat → List D → List D
  | _, [] => []
  | n, u :: us => .tup [.int (n : Nat), u] :: enumD (n + 1) us
def vEn (s : Sy) (a : VF) : VA := fun σ => (a σ).bind fun x => (itemsU s x).map (enumU 0)
def vRange (a : VF) : VA := fun σ => (a σ).bind fun x => match x with
  | .int j => if -1000000 ≤ j ∧ j ≤ 1000000 then some ((List.range j.toNat).map fun (i : Nat) => .int i) else none
  | _ => none
def zipU : List U → List U → List U
  | x :: xs, y :: ys => .tup [x, y] :: zipU xs ys
  | _, _ => []
def zipD : List D → List D → List D
  | x :: xs, y :: ys => .tup [x, y] :: zipD xs ys
  | _, _ => []
def zipV : U → U → Option (List U)
  | .tup us, .tup vs => some (zipU us vs)
  | .lst us, .lst vs => some (zipU us vs)
  | _, _ => none
def vZip (a b : VF) : VA := fun σ => (a σ).bind fun x => (b σ).bind fun y => zipV x y
def vKeys (a : VF) : VA := fun σ => (a σ).bind fun x => match x with
  | .dct ks _ => some (ks.map .str)
  | _ => none
def vKeysT (a : VF) : VA := fun σ => (a σ).bind fun x => match x with
  | .tdct ks _ => some ks
  | _ => none
section
variable {s : Sy} {r : Txt → Txt} {b : Bool} {own : List Nat} {v : View}
theorem nxL_ix (ds : List D) (i : Nat) (h : i ≤ ds.length) : nxL ds i = if h : i < ds.length then some (some ds[i]) else some none := by
  unfold nxL
  by_cases q : i = ds.length
  · rw [if_pos q]; simp [q]
  · have : i < ds.length := by omega
    rw [if_neg q]; simp [this]
theorem enumD_len : ∀ (n : Nat) (ds : List D), (enumD n ds).length = ds.length
  | n, [] => rfl
  | n, d :: ds => by simp [enumD, enumD_len]
theorem enumD_get : ∀ (n : Nat) (ds : List D) (i : Nat), (enumD n ds)[i]? = (ds[i]?).map fun d => .tup [.int ((n + i : Nat)), d]
  | n, [], i => by simp [enumD]
  | n, d :: ds, 0 => by simp [enumD]
  | n, d :: ds, i + 1 => by
    have := enumD_get (n + 1) ds i
    simp only [enumD, List.getElem?_cons_succ, this]
    rw [show n + 1 + i = n + (i + 1) by omega]
theorem nxEn_enum (ds : List D) (i : Nat) : nxEn ds i = nxL (enumD 0 ds) i := by
  unfold nxEn nxL
  rw [enumD_len]
  split
  · rfl
  · rw [enumD_get]; cases ds[i]? <;> simp
theorem reps.enum : ∀ {us : List U} {ds : List D} (n : Nat), reps r v us ds → reps r v (enumU n us) (enumD n ds)
  | [], ds, n, h => by rw [h.nil_iff]; exact .nil
  | u :: us, ds, n, h => by
    obtain ⟨d, e, rfl, h1, h2⟩ := h.cons_iff
    exact .cons (rep_tup.mpr ⟨_, rfl, .cons (rep_int.mpr rfl) (.cons h1 .nil)⟩) (h2.enum (n + 1))
theorem reps.zip : ∀ {us vs : List U} {ds es : List D}, reps r v us ds → reps r v vs es → reps r v (zipU us vs) (zipD ds es)
  | [], vs, ds, es, h, k => by rw [h.nil_iff]; simp [zipU, zipD]; exact .nil
  | u :: us, [], ds, es, h, k => by rw [k.nil_iff]; simp [zipU, zipD]; exact .nil
  | u :: us, w :: vs, ds, es, h, k => by
    obtain ⟨d, e, rfl, h1, h2⟩ := h.cons_iff
    obtain ⟨d', e', rfl, k1, k2⟩ := k.cons_iff
    exact .cons (rep_tup.mpr ⟨_, rfl, .cons h1 (.cons k1 .nil)⟩) (h2.zip k2)
theorem zipD_get : ∀ (ds es : List D) (i : Nat), (zipD ds es)[i]? = match ds[i]?, es[i]? with
    | some d, some e => some (.tup [d, e])
    | _, _ => none
  | [], es, i => by simp [zipD]
  | d :: ds, [], i => by cases i <;> simp [zipD]
  | d :: ds, e :: es, 0 => by simp [zipD]
  | d :: ds, e :: es, i + 1 => by simp [zipD, zipD_get ds es i]
theorem zipD_len (ds es : List D) : (zipD ds es).length ≤ ds.length := by
  induction ds generalizing es with
  | nil => simp [zipD]
  | cons d ds ih => cases es with
    | nil => simp [zipD]
    | cons e es => simp [zipD]; exact ih es
theorem nxZ_zip (ds es : List D) (i : Nat) (h : i ≤ (zipD ds es).length) : nxZ ds es i = nxL (zipD ds es) i := by
  have g := zipD_get ds es i
  unfold nxZ nxL
  split
  · rename_i d e e1 e2
    rw [e1, e2] at g
    have : i ≠ (zipD ds es).length := fun z => by
      rw [List.getElem?_eq_none (by omega)] at g; cases g
    rw [if_neg this, g]; rfl
  · rename_i q
    have g' : (zipD ds es)[i]? = none := by
      rw [g]
      split
      · rename_i d e e1 e2
        exact absurd e2 (q d e e1)
      · rfl
    have : i = (zipD ds es).length := by
      have := List.getElem?_eq_none_iff.mp g'
      omega
    rw [if_pos this]
theorem signs_r (R : Rn s r) : ∀ x : Txt, x.all (fun c => s.free [c]) = true → reps r v (x.map fun c => .str [c]) (signs x)
  | [], _ => .nil
  | c :: x, h => by
    simp only [List.all_cons, Bool.and_eq_true] at h
    exact .cons (rep_str.mpr (by rw [R.fix _ h.1])) (signs_r R x h.2)
theorem lst_stays {H : List Nat} {S S'' : Store} {n : Nat} {ds : List D} (l : Le (vis H S) (vis H S'')) (e : S[n]? = some (.lst ds)) (h : n ∉ H) : lstAt S'' n = some ds := by
  have := latV_mono l (latV_of e h)
  obtain ⟨m, e1, e2, _⟩ := latV_vis this
  cases e1
  exact lstAt_of _ e2
theorem items_ok (R : Rn s r) {H : List Nat} {S : Store} {x : U} {d : D} {us : List U} (h : rep r (vis H S) x d) (e : itemsU s x = some us) : ∃ src, srcOf d S = some src ∧ SrcV r H S us src := by
  unfold itemsU at e
  split at e
  · cases e
    obtain ⟨ds, rfl, k⟩ := rep_tup.mp h
    exact ⟨_, rfl, ds, k, by simp, fun S'' i l hi => rfl⟩
  · cases e
    obtain ⟨ds, e1, k⟩ := rep_lst.mp h
    obtain ⟨n, rfl, e2, e3⟩ := latV_vis e1
    refine ⟨⟨ds.length + 1, fun i S => (lstAt S n).bind fun xs => nxL xs i⟩, by simp only [srcOf, lstAt_of S e2, Option.map_some], ds, k, by simp, fun S'' i l hi => ?_⟩
    simp only [lst_stays l e2 e3, Option.bind_some]
  · split at e
    · rename_i x q
      cases e
      rw [Bool.and_eq_true] at q
      rw [rep_str.mp h, R.fix _ q.1]
      exact ⟨_, rfl, signs x, signs_r R x q.2, by simp [signs], fun S'' i l hi => rfl⟩
    · cases e
  · cases e
theorem itemsE_ok (R : Rn s r) {H : List Nat} {S : Store} {x : U} {d : D} {us : List U} (h : rep r (vis H S) x d) (e : itemsU s x = some us) : ∃ src, srcEn d S = some src ∧ SrcV r H S (enumU 0 us) src := by
  unfold itemsU at e
  split at e
  · cases e
    obtain ⟨ds, rfl, k⟩ := rep_tup.mp h
    exact ⟨_, rfl, enumD 0 ds, k.enum 0, by simp [enumD_len], fun S'' i l hi => nxEn_enum ds i⟩
  · cases e
    obtain ⟨ds, e1, k⟩ := rep_lst.mp h
    obtain ⟨n, rfl, e2, e3⟩ := latV_vis e1
    refine ⟨⟨ds.length + 1, fun i S => (lstAt S n).bind fun xs => nxEn xs i⟩, by simp only [srcEn, lstAt_of S e2, Option.map_some], enumD 0 ds, k.enum 0, by simp [enumD_len], fun S'' i l hi => ?_⟩
    simp only [lst_stays l e2 e3, Option.bind_some, nxEn_enum]
  · split at e
    · rename_i x q
      cases e
      rw [Bool.and_eq_true] at q
      rw [rep_str.mp h, R.fix _ q.1]
      exact ⟨_, rfl, enumD 0 (signs x), (signs_r R x q.2).enum 0, by simp [signs, enumD_len], fun S'' i l hi => nxEn_enum _ i⟩
    · cases e
  · cases e
theorem si_val (R : Rn s r) {ea : EF} {va : VF} (h : SP r b own ea va) : SI r b own (iVal ea) (vIt s va) := fun c ρ S σ us I e => by
  obtain ⟨x, e1, e⟩ := bnd e
  obtain ⟨d, S1, a1, a2, a3⟩ := h c ρ S σ x I e1
  obtain ⟨src, g1, g2⟩ := items_ok R a3 e
  exact ⟨src, S1, by simp [iVal, a1, g1, ofSrc], a2, g2⟩
theorem si_en (R : Rn s r) {ea : EF} {va : VF} (h : SP r b own ea va) : SI r b own (iEn (aCons ea aNil)) (vEn s va) := fun c ρ S σ us I e => by
  obtain ⟨x, e1, e⟩ := bnd e
  obtain ⟨ws, e2, rfl⟩ := Option.map_eq_some_iff.mp e
  obtain ⟨d, S1, a1, a2, a3⟩ := h c ρ S σ x I e1
  obtain ⟨src, g1, g2⟩ := itemsE_ok R a3 e2
  exact ⟨src, S1, by simp [iEn, aCons, aNil, a1, g1, ofSrc], a2, g2⟩
theorem si_range {ea : EF} {va : VF} (h : SL r b own ea va) : SI r b own (iRange (aCons ea aNil)) (vRange va) := fun c ρ S σ us I e => by
  obtain ⟨x, e1, e⟩ := bnd e
  obtain ⟨d, S1, a1, a2, a3⟩ := h c ρ S σ x I e1
  cases x <;> simp at e
  rename_i j
  obtain ⟨q, rfl⟩ := e
  obtain rfl := r1_int a3
  refine ⟨_, S1, by simp only [iRange, aCons, aNil, a1, Res.bind_ok, srcRg]; rw [if_pos ⟨by omega, by omega⟩]; rfl, a2, (List.range j.toNat).map fun (i : Nat) => .int i, ?_, by simp, fun S'' i l hi => ?_⟩
  · generalize List.range j.toNat = l
    induction l with
    | nil => exact .nil
    | cons a l ih => exact .cons (rep_int.mpr rfl) ih
  · simp at hi
    rw [nxL_ix _ _ (by simpa using hi)]
    simp
theorem zip_ok {H : List Nat} {S : Store} {x y : U} {d e : D} {us : List U} (h : rep r (vis H S) x d) (k : rep r (vis H S) y e) (q : zipV x y = some us) : ∃ src, srcZ d e S = some src ∧ SrcV r H S us src := by
  unfold zipV at q
  split at q
  · cases q
    obtain ⟨ds, rfl, k1⟩ := rep_tup.mp h
    obtain ⟨es, rfl, k2⟩ := rep_tup.mp k
    exact ⟨_, rfl, zipD ds es, k1.zip k2, by have := zipD_len ds es; simp; omega, fun S'' i l hi => nxZ_zip ds es i hi⟩
  · cases q
    obtain ⟨ds, e1, k1⟩ := rep_lst.mp h
    obtain ⟨n, rfl, e2, e3⟩ := latV_vis e1
    obtain ⟨es, f1, k2⟩ := rep_lst.mp k
    obtain ⟨m, rfl, f2, f3⟩ := latV_vis f1
    refine ⟨⟨ds.length + 1, fun i S => match lstAt S n, lstAt S m with
      | some xs, some ys => nxZ xs ys i
      | _, _ => none⟩, by simp only [srcZ, lstAt_of S e2, lstAt_of S f2] <;> rfl, zipD ds es, k1.zip k2, by have := zipD_len ds es; simp; omega, fun S'' i l hi => ?_⟩
    simp only [lst_stays l e2 e3, lst_stays l f2 f3]
    exact nxZ_zip ds es i hi
  · cases q
theorem si_zip {ea ec : EF} {va vc : VF} (h : SP r b own ea va) (k : SP r b own ec vc) : SI r b own (iZip (aCons ea (aCons ec aNil))) (vZip va vc) := fun c ρ S σ us I e => by
  obtain ⟨x, e1, e⟩ := bnd e
  obtain ⟨y, e2, e⟩ := bnd e
  obtain ⟨d, S1, a1, a2, a3⟩ := h c ρ S σ x I e1
  obtain ⟨d', S2, c1, c2, c3⟩ := k c ρ S1 σ y (I.grow a2) e2
  obtain ⟨src, g1, g2⟩ := zip_ok (a3.mono c2.vis) c3 e
  exact ⟨src, S2, by simp [iZip, aCons, aNil, a1, c1, g1, ofSrc], a2.trans c2, g2⟩
end
/-! ### hidden objects -/
/-- all but number n stays -/
structure Gn (L : List Nat) (n : Nat) (S S' : Store) : Prop where
  len : S.length ≤ S'.length
  get : ∀ i, i < S.length → i ≠ n → S'[i]? = S[i]?
  nl : Nl L S → Nl L S'
section
variable {s : Sy} {r : Txt → Txt} {b : Bool} {own : List Nat} {L H : List Nat} {n : Nat} {S S' S'' : Store}
theorem Gn.refl : Gn L n S S := ⟨Nat.le_refl _, fun _ _ _ => rfl, fun h => h⟩
theorem Gn.trans (a : Gn L n S S') (c : Gn L n S' S'') : Gn L n S S'' := ⟨Nat.le_trans a.len c.len, fun i h k => (c.get i (Nat.lt_of_lt_of_le h a.len) k).trans (a.get i h k), fun h => c.nl (a.nl h)⟩
theorem Gr.gn (g : Gr L S S') : Gn L n S S' := ⟨g.le, fun i h _ => by
  obtain ⟨T, rfl⟩ := g.pre
  rw [List.getElem?_append_left h], g.nl⟩
theorem Gn.put {o : O} (ho : unlO o = o) : Gn L n S (S.set n o) := ⟨by simp, fun i _ h => by rw [List.getElem?_set_ne (Ne.symm h)], fun h => h.set ho⟩
theorem Gn.le (g : Gn L n S S') (h : n ∈ H) : Le (vis H S) (vis H S') := fun i o e => by
  unfold vis at e ⊢
  split at e
  · cases e
  · rename_i q
    rw [if_neg q]
    have hi : i < S.length := by
      cases z : S[i]? with
      | none => rw [z] at e; cases e
      | some y => exact (List.getElem?_eq_some_iff.mp z).1
    rw [g.get i hi fun z => q (z ▸ h)]
    exact e
/-- an object that was made and changed alone -/
theorem Gn.gr {o : O} (g : Gn L S.length (S ++ [o]) S') (ho : unlO o = o) : Gr L S S' := by
  refine ⟨?_, fun h => g.nl ((Gr.app o ho).nl h)⟩
  have hl := g.len
  simp at hl
  refine ⟨S'.drop S.length, ?_⟩
  apply List.ext_getElem?
  intro i
  by_cases hi : i < S.length
  · rw [List.getElem?_append_left hi, g.get i (by simp; omega) (by omega), List.getElem?_append_left hi]
  · rw [List.getElem?_append_right (by omega), List.getElem?_drop]
    congr 1
    omega
theorem Iv.gn {c : Cv} {ρ : Env} {σ : VEnv} (I : Iv r b own c ρ S σ) (g : Gn c.L n S S') (h : n ∈ c.h) : Iv r b own c ρ S' σ := by
  have hH : n ∈ c.H := by unfold Cv.H; exact List.mem_append_left _ h
  refine ⟨I.lk, I.ow, g.nl I.nl, fun m hm => Nat.lt_of_lt_of_le (I.hb m hm) g.len, I.nd, I.dj, I.len, ?_, ?_⟩
  · intro i u e q
    obtain ⟨d, e1, e2⟩ := I.pl i u e q
    exact ⟨d, e1, e2.mono (g.le hH)⟩
  · intro i m hm
    obtain ⟨u, e1, e2, e3⟩ := I.mo i m hm
    have hm' : m ∈ c.ms := List.mem_map.mpr ⟨_, hm, rfl⟩
    have : m ≠ n := fun z => I.dj m hm' (z ▸ h)
    exact ⟨u, e1, e2, e3.mono (g.get m (I.hb m (by unfold Cv.H; exact List.mem_append_right _ hm')) this) (g.le hH)⟩
end
abbrev Cv.hid (c : Cv) (n : Nat) : Cv := ⟨c.L, n :: c.h, c.M⟩
theorem vis_hid {c : Cv} {S : Store} {o : O} : Le (vis c.H S) (vis (c.hid S.length).H (S ++ [o])) := fun i y e => by
  have hi : i < S.length := by
    unfold vis at e
    split at e
    · cases e
    · cases z : S[i]? with
      | none => rw [z] at e; cases e
      | some y => exact (List.getElem?_eq_some_iff.mp z).1
  have e' := Le.pre (H := c.H) (List.prefix_append S [o]) i y e
  unfold vis at e' ⊢
  split at e'
  · cases e'
  · rename_i q
    have : i ∉ (c.hid S.length).H := by
      intro z
      unfold Cv.H at z
      rcases List.mem_append.mp z with z | z
      · rcases List.mem_cons.mp z with z | z
        · omega
        · exact q (List.mem_append_left _ z)
      · exact q (List.mem_append_right _ z)
    rw [if_neg this]
    exact e'
theorem vis_unhid {c : Cv} {n : Nat} {S : Store} : Le (vis (c.hid n).H S) (vis c.H S) := .sub fun i hi => by
  unfold Cv.H at hi ⊢
  rcases List.mem_append.mp hi with z | z
  · exact List.mem_append_left _ (List.mem_cons_of_mem _ z)
  · exact List.mem_append_right _ z
theorem hid_mem {c : Cv} {n : Nat} : n ∈ (c.hid n).h := List.mem_cons_self
theorem not_H {r : Txt → Txt} {b : Bool} {own : List Nat} {c : Cv} {ρ : Env} {S : Store} {σ : VEnv} (I : Iv r b own c ρ S σ) : S.length ∉ c.H := fun z => by have := I.hb _ z; omega
/-! ### [el for t in it if ..] -/
def vlcF (t : Tg) (ti : VT) (el : VF) (σ : VEnv) : List U → Option (List U)
  | [] => some []
  | x :: xs => (tgU t x σ).bind fun σ1 => (ti σ1).bind fun k => if k = true then (el σ1).bind fun y => (vlcF t ti el σ xs).map (y :: ·) else vlcF t ti el σ xs
def vLc (it : VA) (t : Tg) (ti : VT) (el : VF) (vs : List Nat) : VF := fun σ => (it σ).bind fun xs => if xs.length ≤ 1000000 then (vlcF t ti el (wipeV σ vs) xs).map U.lst else none
section
variable {s : Sy} {r : Txt → Txt} {b : Bool} {own : List Nat}
theorem vlc_run {t : Tg} {ti : TF} {el : EF} {vti : VT} {vel : VF} {nxt : Nat → Store → Option (Option D)} {n : Nat} {c : Cv} {ρ : Env} {σ : VEnv} {S1 : Store} {ds : List D} (hn : n ∈ c.h) (ht : ∀ i ∈ t.slots, i ∉ own) (h1 : STt r b own ti vti) (h2 : SP r b own el vel)
    (hx : ∀ S'' i, Le (vis c.H S1) (vis c.H S'') → i ≤ ds.length → nxt i S'' = nxL ds i) (hl : ds.length ≤ 1000000) :
    ∀ (ws : List U) (i m : Nat) (S : Store) (accU : List U) (acc : List D) (out : List U), reps r (vis c.H S1) ws (ds.drop i) → i ≤ ds.length → ds.length < m + i → Iv r b own c ρ S σ → Le (vis c.H S1) (vis c.H S) → S[n]? = some (.lst acc) → acc.length ≤ i → reps r (vis c.H S) accU acc → vlcF t vti vel σ ws = some out →
      ∃ S' acc', lcF nxt t ti el n m i ρ S = .ok (.ref n) S' ∧ Gn c.L n S S' ∧ S'[n]? = some (.lst acc') ∧ reps r (vis c.H S') (accU ++ out) acc' := by
  have hH : n ∈ c.H := by unfold Cv.H; exact List.mem_append_left _ hn
  intro ws
  induction ws with
  | nil =>
    intro i m S accU acc out hw hi hm I le e1 hal e2 e
    cases e
    have : i = ds.length := by
      have := hw.length
      simp at this
      omega
    subst this
    cases m with
    | zero => omega
    | succ m =>
      refine ⟨S, acc, ?_, .refl, e1, by simpa using e2⟩
      unfold lcF
      rw [hx S _ le (Nat.le_refl _)]
      simp [nxL]
  | cons w ws ih =>
    intro i m S accU acc out hw hi hm I le e1 hal e2 e
    obtain ⟨d, x, hd, k1, k2⟩ := hw.cons_iff
    have hi' : i < ds.length := by
      have := congrArg List.length hd
      simp at this
      omega
    have hd' : ds[i]? = some d ∧ x = ds.drop (i + 1) := by
      have h3 := List.drop_eq_getElem_cons hi'
      rw [hd] at h3
      injection h3 with h4 h5
      exact ⟨by rw [List.getElem?_eq_getElem hi', h4], h5⟩
    cases m with
    | zero => omega
    | succ m =>
      obtain ⟨σ1, g1, e⟩ := bnd e
      obtain ⟨k, g2, e⟩ := bnd e
      obtain ⟨ρ1, t1, I1⟩ := tg_ok ht I (k1.mono le) g1
      obtain ⟨S2, b1, b2⟩ := h1 c ρ1 S σ1 k I1 g2
      have hnx : nxt i S = some (some d) := by
        rw [hx S i le (Nat.le_of_lt hi')]
        unfold nxL
        rw [if_neg (by omega), hd'.1]; rfl
      unfold lcF
      simp only [hnx, t1, b1, Res.quiet, Res.bind_ok]
      cases k
      · simp at e
        obtain ⟨S3, acc', f1, f2, f3, f4⟩ := ih (i + 1) m S2 accU acc out (hd'.2 ▸ k2) hi' (by omega) (I.grow b2) (fun j o z => b2.vis j o (le j o z)) (pre_get b2.pre e1) (by omega) (e2.mono b2.vis) e
        exact ⟨S3, acc', by simpa using f1, b2.gn.trans f2, f3, f4⟩
      · simp at e
        obtain ⟨y, g3, e⟩ := bnd e
        obtain ⟨out', g4, rfl⟩ := Option.map_eq_some_iff.mp e
        obtain ⟨dy, S3, q1, q2, q3⟩ := h2 c ρ1 S2 σ1 y (I1.grow b2) g3
        have e3 : S3[n]? = some (.lst acc) := pre_get q2.pre (pre_get b2.pre e1)
        have nl3 : n < S3.length := (List.getElem?_eq_some_iff.mp e3).1
        have I3 : Iv r b own c ρ S3 σ := (I.grow b2).grow q2
        have vs : vis c.H (S3.set n (.lst (acc ++ [dy]))) = vis c.H S3 := vis_set hH
        obtain ⟨S4, acc', f1, f2, f3, f4⟩ := ih (i + 1) m (S3.set n (.lst (acc ++ [dy]))) (accU ++ [y]) (acc ++ [dy]) out' (hd'.2 ▸ k2) hi' (by omega) (I3.put hn rfl) (by rw [vs]; exact fun j o z => q2.vis j o (b2.vis j o (le j o z))) (List.getElem?_set_self nl3) (by simp; omega) (by rw [vs]; exact ((e2.mono b2.vis).mono q2.vis).append (.cons q3 .nil)) g4
        refine ⟨S4, acc', ?_, ((b2.gn.trans q2.gn).trans (Gn.put rfl)).trans f2, f3, by simpa using f4⟩
        simp only [if_true, q1, Res.quiet, Res.bind_ok, e3]
        rw [if_pos (by simp only [lim_is]; omega)]
        exact f1
theorem sp_lc_at {it : IF} {t : Tg} {ti : TF} {el : EF} {vs : List Nat} {vi : VA} {vti : VT} {vel : VF} {c : Cv} {ρ : Env} {S : Store} {σ : VEnv} {u : U} (I : Iv r b own c ρ S σ) (hi : ∀ us, vi σ = some us → ∃ src S', it ρ S = .ok src S' ∧ Gr c.L S S' ∧ SrcV r c.H S' us src) (ht : ∀ i ∈ t.slots, i ∉ own) (hv : ∀ i ∈ vs, i ∉ own) (h1 : STt r b own ti vti) (h2 : SP r b own el vel) (e : vLc vi t vti vel vs σ = some u) : ∃ d S', eLc it t ti el vs ρ S = .ok d S' ∧ Gr c.L S S' ∧ rep r (vis c.H S') u d := by
  obtain ⟨us, e1, e⟩ := bnd e
  split at e
  case isFalse => cases e
  rename_i hl
  obtain ⟨out, e2, rfl⟩ := Option.map_eq_some_iff.mp e
  obtain ⟨src, S1, a1, a2, ds, a3, a4, a5⟩ := hi us e1
  have I1 := I.grow a2
  have I2 := (I1.hide (o := .lst []) rfl).wipe hv
  have len : ds.length = us.length := a3.length
  obtain ⟨S', acc', f1, f2, f3, f4⟩ := vlc_run (n := S1.length) (c := c.hid S1.length) (S1 := S1 ++ [.lst []]) hid_mem ht h1 h2 (fun S'' i le hi => a5 S'' i (fun j o z => vis_unhid _ _ (le j o (vis_hid _ _ z))) hi) (by omega) us 0 src.fuel (S1 ++ [.lst []]) [] [] out (by simpa using a3.mono vis_hid) (Nat.zero_le _) (by omega) I2 (fun _ _ z => z) (by simp) (by simp) .nil e2
  refine ⟨.ref S1.length, S', by simp only [eLc, a1, Res.bind_ok]; exact f1, a2.trans (f2.gr rfl), rep_lst.mpr ⟨acc', latV_of f3 (not_H I1), ?_⟩⟩
  simpa using f4.mono vis_unhid
theorem sp_lc {it : IF} {t : Tg} {ti : TF} {el : EF} {vs : List Nat} {vi : VA} {vti : VT} {vel : VF} (hi : SI r b own it vi) (ht : ∀ i ∈ t.slots, i ∉ own) (hv : ∀ i ∈ vs, i ∉ own) (h1 : STt r b own ti vti) (h2 : SP r b own el vel) : SP r b own (eLc it t ti el vs) (vLc vi t vti vel vs) := fun c ρ S σ u I e => sp_lc_at I (fun us e1 => hi c ρ S σ us I e1) ht hv h1 h2 e
end
end Al

set_option Elab.async false
set_option linter.all false
set_option maxRecDepth 100000
set_option maxHeartbeats 1000000
/-! Vs: dicts that are made, two fors, locks. -/
namespace Al
open PySem
def dSetV : List Txt → List U → Txt → U → List U
  | a :: ks, w :: us, k, u => (if a = k then u else w) :: dSetV ks us k u
  | _, _, _, _ => []
def dPutV (p : List Txt × List U) (k : Txt) (u : U) : List Txt × List U := if (dGetV p.1 p.2 k).isSome then (p.1, dSetV p.1 p.2 k u) else (p.1 ++ [k], p.2 ++ [u])
def tSetV : List U → List U → U → U → List U
  | a :: ks, w :: us, k, u => (if eqU a k then u else w) :: tSetV ks us k u
  | _, _, _, _ => []
def tPutV (p : List U × List U) (k : U) (u : U) : List U × List U := if (tGetV p.1 p.2 k).isSome then (p.1, tSetV p.1 p.2 k u) else (p.1 ++ [k], p.2 ++ [u])
/-- a dict's content -/
def repD (r : Txt → Txt) (v : View) (p : List Txt × List U) (kvs : List (Txt × D)) : Prop := kvs.map (·.1) = p.1.map r ∧ reps r v p.2 (kvs.map (·.2))
def repT (r : Txt → Txt) (v : View) (p : List U × List U) (kvs : List (D × D)) : Prop := reps r v p.1 (kvs.map (·.1)) ∧ reps r v p.2 (kvs.map (·.2)) ∧ p.1.all (keyU 8) = true
section
variable {s : Sy} {r : Txt → Txt} {b : Bool} {own : List Nat} {v : View}
theorem dHas_is (k : Txt) : ∀ kvs : List (Txt × D), dHas kvs k = (dGet kvs k).isSome
  | [] => rfl
  | p :: kvs => by
    have ih := dHas_is k kvs
    unfold dHas at ih ⊢
    unfold dGet
    rw [List.any_cons, ih]
    by_cases q : p.1 = k
    · simp [q]
    · simp [q]
theorem dSet_ok (R : Rn s r) {k : Txt} {u : U} {d : D} (hd : rep r v u d) : ∀ (ks : List Txt) (us : List U) (kvs : List (Txt × D)), kvs.map (·.1) = ks.map r → reps r v us (kvs.map (·.2)) →
    (kvs.map fun p => if p.1 = r k then (p.1, d) else p).map (·.1) = ks.map r ∧ reps r v (dSetV ks us k u) ((kvs.map fun p => if p.1 = r k then (p.1, d) else p).map (·.2))
  | ks, us, [], h1, h2 => by
    have : ks = [] := by simpa using h1.symm
    subst this
    exact ⟨rfl, by simp [dSetV]; exact .nil⟩
  | ks, us, p :: kvs, h1, h2 => by
    cases ks with
    | nil => simp at h1
    | cons a ks =>
      cases us with
      | nil => have := h2.nil_iff; simp at this
      | cons w us =>
        obtain ⟨d0, x, e0, k1, k2⟩ := h2.cons_iff
        simp at e0
        obtain ⟨rfl, rfl⟩ := e0
        simp only [List.map_cons, List.cons.injEq] at h1
        obtain ⟨i1, i2⟩ := dSet_ok (k := k) R hd ks us kvs h1.2 k2
        simp only [List.map_cons, dSetV]
        by_cases q : a = k
        · subst q
          rw [if_pos h1.1, if_pos rfl]
          exact ⟨by rw [i1, h1.1], .cons hd i2⟩
        · rw [if_neg (by rw [h1.1]; exact fun z => q (R.inj _ _ z)), if_neg q]
          exact ⟨by rw [i1, h1.1], .cons k1 i2⟩
theorem dPut_ok (R : Rn s r) {k : Txt} {u : U} {d : D} (hd : rep r v u d) {p : List Txt × List U} {kvs : List (Txt × D)} (h : repD r v p kvs) : repD r v (dPutV p k u) (dPut kvs (r k) d) := by
  unfold dPut dPutV
  rw [dHas_is, has_ok R h.1 h.2]
  split
  · exact dSet_ok R hd p.1 p.2 kvs h.1 h.2
  · refine ⟨by simp [h.1], ?_⟩
    simp only [List.map_append, List.map_cons, List.map_nil]
    exact h.2.append (.cons hd .nil)
theorem dPut_len (kvs : List (Txt × D)) (k : Txt) (d : D) : (dPut kvs k d).length ≤ kvs.length + 1 := by
  unfold dPut
  split <;> simp
theorem tSet_ok (R : Rn s r) {k : U} (hk : keyU 8 k = true) {u : U} {d : D} (hd : rep r v u d) : ∀ (ks us : List U) (kvs : List (D × D)), ks.all (keyU 8) = true → reps r v ks (kvs.map (·.1)) → reps r v us (kvs.map (·.2)) →
    reps r v ks ((kvs.map fun p => if nkOf p.1 = some (kOf r k) then (p.1, d) else p).map (·.1)) ∧ reps r v (tSetV ks us k u) ((kvs.map fun p => if nkOf p.1 = some (kOf r k) then (p.1, d) else p).map (·.2))
  | ks, us, [], ha, h1, h2 => by
    have : ks = [] := List.eq_nil_of_length_eq_zero (by rw [← h1.length]; rfl)
    subst this
    exact ⟨.nil, by simp [tSetV]; exact .nil⟩
  | ks, us, p :: kvs, ha, h1, h2 => by
    cases ks with
    | nil => have := h1.nil_iff; simp at this
    | cons a ks =>
      cases us with
      | nil => have := h2.nil_iff; simp at this
      | cons w us =>
        obtain ⟨d0, x, e0, k1, k2⟩ := h1.cons_iff
        obtain ⟨d0', x', e0', k1', k2'⟩ := h2.cons_iff
        simp at e0 e0'
        obtain ⟨rfl, rfl⟩ := e0
        obtain ⟨rfl, rfl⟩ := e0'
        simp only [List.all_cons, Bool.and_eq_true] at ha
        obtain ⟨i1, i2⟩ := tSet_ok R hk hd ks us kvs ha.2 k2 k2'
        simp only [List.map_cons, tSetV]
        rw [(nk_rep 8 a p.1 ha.1 k1).1]
        by_cases q : eqU a k = true
        · rw [if_pos (by rw [(kOf_eq R 8 a k ha.1 hk).mpr q]), if_pos q]
          exact ⟨.cons k1 i1, .cons hd i2⟩
        · rw [if_neg (fun z => q ((kOf_eq R 8 a k ha.1 hk).mp (Option.some.inj z))), if_neg q]
          exact ⟨.cons k1 i1, .cons k1' i2⟩
theorem tPut_ok (R : Rn s r) {k : U} (hk : keyU 8 k = true) {kd : D} (hkd : rep r v k kd) {u : U} {d : D} (hd : rep r v u d) {p : List U × List U} {kvs : List (D × D)} (h : repT r v p kvs) : repT r v (tPutV p k u) (tPut kvs kd (kOf r k) d) := by
  unfold tPut tPutV
  have g := tGet_ok R k hk h.2.2 h.1 h.2.1
  have e : (tGet kvs (kOf r k)).isSome = (tGetV p.1 p.2 k).isSome := by
    cases q : tGetV p.1 p.2 k with
    | none => rw [q] at g; rw [g]; rfl
    | some y => rw [q] at g; obtain ⟨y', g, _⟩ := g; rw [g]; rfl
  rw [e]
  split
  · obtain ⟨a1, a2⟩ := tSet_ok R hk hd p.1 p.2 kvs h.2.2 h.1 h.2.1
    exact ⟨a1, a2, h.2.2⟩
  · refine ⟨?_, ?_, by simp only [List.all_append, h.2.2]; simp [hk]⟩
    · simp only [List.map_append, List.map_cons, List.map_nil]
      exact h.1.append (.cons hkd .nil)
    · simp only [List.map_append, List.map_cons, List.map_nil]
      exact h.2.1.append (.cons hd .nil)
theorem tPut_len (kvs : List (D × D)) (kd : D) (k : NestedKey) (d : D) : (tPut kvs kd k d).length ≤ kvs.length + 1 := by
  unfold tPut
  split <;> simp
theorem repD.mono {v' : View} {p : List Txt × List U} {kvs : List (Txt × D)} (h : repD r v p kvs) (l : Le v v') : repD r v' p kvs := ⟨h.1, h.2.mono l⟩
theorem repT.mono {v' : View} {p : List U × List U} {kvs : List (D × D)} (h : repT r v p kvs) (l : Le v v') : repT r v' p kvs := ⟨h.1.mono l, h.2.1.mono l, h.2.2⟩
end
/-! ### {k: v for ..} -/
def vdcF (t : Tg) (ti : VT) (k v : VF) (σ : VEnv) : List U → List Txt × List U → Option (List Txt × List U)
  | [], p => some p
  | x :: xs, p => (tgU t x σ).bind fun σ1 => (ti σ1).bind fun q => if q = true then (k σ1).bind fun y => (v σ1).bind fun z => match y with
      | .str ks => vdcF t ti k v σ xs (dPutV p ks z)
      | _ => none
    else vdcF t ti k v σ xs p
def vDc (it : VA) (t : Tg) (ti : VT) (k v : VF) (vs : List Nat) : VF := fun σ => (it σ).bind fun xs => if xs.length ≤ 1000000 then (vdcF t ti k v (wipeV σ vs) xs ([], [])).map fun p => U.dct p.1 p.2 else none
def vdcN (t : Tg) (ti : VT) (k v : VF) (σ : VEnv) : List U → List U × List U → Option (List U × List U)
  | [], p => some p
  | x :: xs, p => (tgU t x σ).bind fun σ1 => (ti σ1).bind fun q => if q = true then (k σ1).bind fun y => (v σ1).bind fun z => match y with
      | .tup ks => if keyU 8 (.tup ks) then vdcN t ti k v σ xs (tPutV p (.tup ks) z) else none
      | _ => none
    else vdcN t ti k v σ xs p
def vDcN (it : VA) (t : Tg) (ti : VT) (k v : VF) (vs : List Nat) : VF := fun σ => (it σ).bind fun xs => if xs.length ≤ 1000000 then (vdcN t ti k v (wipeV σ vs) xs ([], [])).map fun p => U.tdct p.1 p.2 else none
section
variable {s : Sy} {r : Txt → Txt} {b : Bool} {own : List Nat}
theorem vdc_run (R : Rn s r) {t : Tg} {ti : TF} {ek ev : EF} {vti : VT} {vk vv : VF} {nxt : Nat → Store → Option (Option D)} {n : Nat} {c : Cv} {ρ : Env} {σ : VEnv} {S1 : Store} {ds : List D} (hn : n ∈ c.h) (ht : ∀ i ∈ t.slots, i ∉ own) (h1 : STt r b own ti vti) (h2 : SP r b own ek vk) (h3 : SP r b own ev vv)
    (hx : ∀ S'' i, Le (vis c.H S1) (vis c.H S'') → i ≤ ds.length → nxt i S'' = nxL ds i) (hl : ds.length ≤ 1000000) :
    ∀ (ws : List U) (i m : Nat) (S : Store) (accU : List Txt × List U) (acc : List (Txt × D)) (out : List Txt × List U), reps r (vis c.H S1) ws (ds.drop i) → i ≤ ds.length → ds.length < m + i → Iv r b own c ρ S σ → Le (vis c.H S1) (vis c.H S) → S[n]? = some (.dct acc) → acc.length ≤ i → repD r (vis c.H S) accU acc → vdcF t vti vk vv σ ws accU = some out →
      ∃ S' acc', dcF nxt t ti ek ev n m i ρ S = .ok (.ref n) S' ∧ Gn c.L n S S' ∧ S'[n]? = some (.dct acc') ∧ repD r (vis c.H S') out acc' := by
  have hH : n ∈ c.H := by unfold Cv.H; exact List.mem_append_left _ hn
  intro ws
  induction ws with
  | nil =>
    intro i m S accU acc out hw hi hm I le e1 hal e2 e
    cases e
    have : i = ds.length := by
      have := hw.length
      simp at this
      omega
    subst this
    cases m with
    | zero => omega
    | succ m =>
      refine ⟨S, acc, ?_, .refl, e1, by simpa using e2⟩
      unfold dcF
      rw [hx S _ le (Nat.le_refl _)]
      simp [nxL]
  | cons w ws ih =>
    intro i m S accU acc out hw hi hm I le e1 hal e2 e
    obtain ⟨d, x, hd, k1, k2⟩ := hw.cons_iff
    have hi' : i < ds.length := by
      have := congrArg List.length hd
      simp at this
      omega
    have hd' : ds[i]? = some d ∧ x = ds.drop (i + 1) := by
      have h3 := List.drop_eq_getElem_cons hi'
      rw [hd] at h3
      injection h3 with h4 h5
      exact ⟨by rw [List.getElem?_eq_getElem hi', h4], h5⟩
    cases m with
    | zero => omega
    | succ m =>
      obtain ⟨σ1, g1, e⟩ := bnd e
      obtain ⟨k, g2, e⟩ := bnd e
      obtain ⟨ρ1, t1, I1⟩ := tg_ok ht I (k1.mono le) g1
      obtain ⟨S2, b1, b2⟩ := h1 c ρ1 S σ1 k I1 g2
      have hnx : nxt i S = some (some d) := by
        rw [hx S i le (Nat.le_of_lt hi')]
        unfold nxL
        rw [if_neg (by omega), hd'.1]; rfl
      unfold dcF
      simp only [hnx, t1, b1, Res.quiet, Res.bind_ok]
      cases k
      · simp at e
        obtain ⟨S3, acc', f1, f2, f3, f4⟩ := ih (i + 1) m S2 accU acc out (hd'.2 ▸ k2) hi' (by omega) (I.grow b2) (fun j o z => b2.vis j o (le j o z)) (pre_get b2.pre e1) (by omega) (e2.mono b2.vis) e
        exact ⟨S3, acc', by simpa using f1, b2.gn.trans f2, f3, f4⟩
      · simp only [if_true] at e
        obtain ⟨y, g3, e⟩ := bnd e
        obtain ⟨z, g4, e⟩ := bnd e
        split at e
        case h_2 => cases e
        rename_i ks _e
        obtain ⟨dy, S3, q1, q2, q3⟩ := h2 c ρ1 S2 σ1 _ (I1.grow b2) g3
        obtain ⟨dz, S4, p1, p2, p3⟩ := h3 c ρ1 S3 σ1 _ ((I1.grow b2).grow q2) g4
        obtain rfl := rep_str.mp q3
        have e3 : S4[n]? = some (.dct acc) := pre_get p2.pre (pre_get q2.pre (pre_get b2.pre e1))
        have nl3 : n < S4.length := (List.getElem?_eq_some_iff.mp e3).1
        have I3 : Iv r b own c ρ S4 σ := ((I.grow b2).grow q2).grow p2
        have vs : vis c.H (S4.set n (.dct (dPut acc (r ks) dz))) = vis c.H S4 := vis_set hH
        obtain ⟨S5, acc', f1, f2, f3, f4⟩ := ih (i + 1) m (S4.set n (.dct (dPut acc (r ks) dz))) (dPutV accU ks z) (dPut acc (r ks) dz) out (hd'.2 ▸ k2) hi' (by omega) (I3.put hn rfl) (by rw [vs]; exact fun j o z => p2.vis j o (q2.vis j o (b2.vis j o (le j o z)))) (List.getElem?_set_self nl3) (by have := dPut_len acc (r ks) dz; omega) (by rw [vs]; exact dPut_ok R p3 (((e2.mono b2.vis).mono q2.vis).mono p2.vis)) e
        refine ⟨S5, acc', ?_, (((b2.gn.trans q2.gn).trans p2.gn).trans (Gn.put rfl)).trans f2, f3, f4⟩
        simp only [if_true, q1, p1, Res.quiet, Res.bind_ok, e3]
        rw [if_pos (by simp only [lim_is]; omega)]
        exact f1
theorem sp_dc_at (R : Rn s r) {it : IF} {t : Tg} {ti : TF} {ek ev : EF} {vs : List Nat} {vi : VA} {vti : VT} {vk vv : VF} {c : Cv} {ρ : Env} {S : Store} {σ : VEnv} {u : U} (I : Iv r b own c ρ S σ) (hi : ∀ us, vi σ = some us → ∃ src S', it ρ S = .ok src S' ∧ Gr c.L S S' ∧ SrcV r c.H S' us src) (ht : ∀ i ∈ t.slots, i ∉ own) (hv : ∀ i ∈ vs, i ∉ own) (h1 : STt r b own ti vti) (h2 : SP r b own ek vk) (h3 : SP r b own ev vv) (e : vDc vi t vti vk vv vs σ = some u) : ∃ d S', eDc it t ti ek ev vs ρ S = .ok d S' ∧ Gr c.L S S' ∧ rep r (vis c.H S') u d := by
  obtain ⟨us, e1, e⟩ := bnd e
  split at e
  case isFalse => cases e
  rename_i hl
  obtain ⟨out, e2, rfl⟩ := Option.map_eq_some_iff.mp e
  obtain ⟨src, S1, a1, a2, ds, a3, a4, a5⟩ := hi us e1
  have I1 := I.grow a2
  have I2 := (I1.hide (o := .dct []) rfl).wipe hv
  have len : ds.length = us.length := a3.length
  obtain ⟨S', acc', f1, f2, f3, f4⟩ := vdc_run R (n := S1.length) (c := c.hid S1.length) (S1 := S1 ++ [.dct []]) hid_mem ht h1 h2 h3 (fun S'' i le hi => a5 S'' i (fun j o z => vis_unhid _ _ (le j o (vis_hid _ _ z))) hi) (by omega) us 0 src.fuel (S1 ++ [.dct []]) ([], []) [] out (by simpa using a3.mono vis_hid) (Nat.zero_le _) (by omega) I2 (fun _ _ z => z) (by simp) (by simp) ⟨rfl, .nil⟩ e2
  exact ⟨.ref S1.length, S', by simp only [eDc, a1, Res.bind_ok]; exact f1, a2.trans (f2.gr rfl), rep_dct.mpr ⟨acc', datV_of (.inl f3) (not_H I1), f4.1, f4.2.mono vis_unhid⟩⟩
theorem sp_dc (R : Rn s r) {it : IF} {t : Tg} {ti : TF} {ek ev : EF} {vs : List Nat} {vi : VA} {vti : VT} {vk vv : VF} (hi : SI r b own it vi) (ht : ∀ i ∈ t.slots, i ∉ own) (hv : ∀ i ∈ vs, i ∉ own) (h1 : STt r b own ti vti) (h2 : SP r b own ek vk) (h3 : SP r b own ev vv) : SP r b own (eDc it t ti ek ev vs) (vDc vi t vti vk vv vs) := fun c ρ S σ u I e => sp_dc_at R I (fun us e1 => hi c ρ S σ us I e1) ht hv h1 h2 h3 e
theorem vdcN_run (R : Rn s r) {t : Tg} {ti : TF} {ek ev : EF} {vti : VT} {vk vv : VF} {nxt : Nat → Store → Option (Option D)} {n : Nat} {c : Cv} {ρ : Env} {σ : VEnv} {S1 : Store} {ds : List D} (hn : n ∈ c.h) (ht : ∀ i ∈ t.slots, i ∉ own) (h1 : STt r b own ti vti) (h2 : SP r b own ek vk) (h3 : SP r b own ev vv)
    (hx : ∀ S'' i, Le (vis c.H S1) (vis c.H S'') → i ≤ ds.length → nxt i S'' = nxL ds i) (hl : ds.length ≤ 1000000) :
    ∀ (ws : List U) (i m : Nat) (S : Store) (accU : List U × List U) (acc : List (D × D)) (out : List U × List U), reps r (vis c.H S1) ws (ds.drop i) → i ≤ ds.length → ds.length < m + i → Iv r b own c ρ S σ → Le (vis c.H S1) (vis c.H S) → S[n]? = some (.tdct false acc) → acc.length ≤ i → repT r (vis c.H S) accU acc → vdcN t vti vk vv σ ws accU = some out →
      ∃ S' acc', dcN nxt t ti ek ev n m i ρ S = .ok (.ref n) S' ∧ Gn c.L n S S' ∧ S'[n]? = some (.tdct false acc') ∧ repT r (vis c.H S') out acc' := by
  have hH : n ∈ c.H := by unfold Cv.H; exact List.mem_append_left _ hn
  intro ws
  induction ws with
  | nil =>
    intro i m S accU acc out hw hi hm I le e1 hal e2 e
    cases e
    have : i = ds.length := by
      have := hw.length
      simp at this
      omega
    subst this
    cases m with
    | zero => omega
    | succ m =>
      refine ⟨S, acc, ?_, .refl, e1, by simpa using e2⟩
      unfold dcN
      rw [hx S _ le (Nat.le_refl _)]
      simp [nxL]
  | cons w ws ih =>
    intro i m S accU acc out hw hi hm I le e1 hal e2 e
    obtain ⟨d, x, hd, k1, k2⟩ := hw.cons_iff
    have hi' : i < ds.length := by
      have := congrArg List.length hd
      simp at this
      omega
    have hd' : ds[i]? = some d ∧ x = ds.drop (i + 1) := by
      have h3 := List.drop_eq_getElem_cons hi'
      rw [hd] at h3
      injection h3 with h4 h5
      exact ⟨by rw [List.getElem?_eq_getElem hi', h4], h5⟩
    cases m with
    | zero => omega
    | succ m =>
      obtain ⟨σ1, g1, e⟩ := bnd e
      obtain ⟨k, g2, e⟩ := bnd e
      obtain ⟨ρ1, t1, I1⟩ := tg_ok ht I (k1.mono le) g1
      obtain ⟨S2, b1, b2⟩ := h1 c ρ1 S σ1 k I1 g2
      have hnx : nxt i S = some (some d) := by
        rw [hx S i le (Nat.le_of_lt hi')]
        unfold nxL
        rw [if_neg (by omega), hd'.1]; rfl
      unfold dcN
      simp only [hnx, t1, b1, Res.quiet, Res.bind_ok]
      cases k
      · simp at e
        obtain ⟨S3, acc', f1, f2, f3, f4⟩ := ih (i + 1) m S2 accU acc out (hd'.2 ▸ k2) hi' (by omega) (I.grow b2) (fun j o z => b2.vis j o (le j o z)) (pre_get b2.pre e1) (by omega) (e2.mono b2.vis) e
        exact ⟨S3, acc', by simpa using f1, b2.gn.trans f2, f3, f4⟩
      · simp only [if_true] at e
        obtain ⟨y, g3, e⟩ := bnd e
        obtain ⟨z, g4, e⟩ := bnd e
        split at e
        case h_2 => cases e
        split at e
        case isFalse => cases e
        rename_i ks _e kk
        obtain ⟨dy, S3, q1, q2, q3⟩ := h2 c ρ1 S2 σ1 _ (I1.grow b2) g3
        obtain ⟨dz, S4, p1, p2, p3⟩ := h3 c ρ1 S3 σ1 _ ((I1.grow b2).grow q2) g4
        obtain ⟨nk1, nk2⟩ := nk_rep 8 _ _ kk q3
        obtain ⟨dks, rfl, q4⟩ := rep_tup.mp q3
        have e3 : S4[n]? = some (.tdct false acc) := pre_get p2.pre (pre_get q2.pre (pre_get b2.pre e1))
        have nl3 : n < S4.length := (List.getElem?_eq_some_iff.mp e3).1
        have I3 : Iv r b own c ρ S4 σ := ((I.grow b2).grow q2).grow p2
        have vs : vis c.H (S4.set n (.tdct false (tPut acc (.tup dks) (kOf r (.tup ks)) dz))) = vis c.H S4 := vis_set hH
        obtain ⟨S5, acc', f1, f2, f3, f4⟩ := ih (i + 1) m (S4.set n (.tdct false (tPut acc (.tup dks) (kOf r (.tup ks)) dz))) (tPutV accU (.tup ks) z) (tPut acc (.tup dks) (kOf r (.tup ks)) dz) out (hd'.2 ▸ k2) hi' (by omega) (I3.put hn rfl) (by rw [vs]; exact fun j o z => p2.vis j o (q2.vis j o (b2.vis j o (le j o z)))) (List.getElem?_set_self nl3) (by have := tPut_len acc (.tup dks) (kOf r (.tup ks)) dz; omega) (by rw [vs]; exact tPut_ok R kk (q3.mono p2.vis) p3 (((e2.mono b2.vis).mono q2.vis).mono p2.vis)) e
        refine ⟨S5, acc', ?_, (((b2.gn.trans q2.gn).trans p2.gn).trans (Gn.put rfl)).trans f2, f3, f4⟩
        simp only [if_true, q1, p1, Res.quiet, Res.bind_ok, e3, nk1]
        rw [if_pos ⟨by simp only [lim_is]; omega, nk2⟩]
        exact f1
theorem sp_dcN (R : Rn s r) {it : IF} {t : Tg} {ti : TF} {ek ev : EF} {vs : List Nat} {vi : VA} {vti : VT} {vk vv : VF} (hi : SI r b own it vi) (ht : ∀ i ∈ t.slots, i ∉ own) (hv : ∀ i ∈ vs, i ∉ own) (h1 : STt r b own ti vti) (h2 : SP r b own ek vk) (h3 : SP r b own ev vv) : SP r b own (eDcN it t ti ek ev vs) (vDcN vi t vti vk vv vs) := fun c ρ S σ u I e => by
  obtain ⟨us, e1, e⟩ := bnd e
  split at e
  case isFalse => cases e
  rename_i hl
  obtain ⟨out, e2, rfl⟩ := Option.map_eq_some_iff.mp e
  obtain ⟨src, S1, a1, a2, ds, a3, a4, a5⟩ := hi c ρ S σ us I e1
  have I1 := I.grow a2
  have I2 := (I1.hide (o := .tdct false []) rfl).wipe hv
  have len : ds.length = us.length := a3.length
  obtain ⟨S', acc', f1, f2, f3, f4⟩ := vdcN_run R (n := S1.length) (c := c.hid S1.length) (S1 := S1 ++ [.tdct false []]) hid_mem ht h1 h2 h3 (fun S'' i le hi => a5 S'' i (fun j o z => vis_unhid _ _ (le j o (vis_hid _ _ z))) hi) (by omega) us 0 src.fuel (S1 ++ [.tdct false []]) ([], []) [] out (by simpa using a3.mono vis_hid) (Nat.zero_le _) (by omega) I2 (fun _ _ z => z) (by simp) (by simp) ⟨.nil, .nil, rfl⟩ e2
  exact ⟨.ref S1.length, S', by simp only [eDcN, a1, Res.bind_ok]; exact f1, a2.trans (f2.gr rfl), rep_tdct.mpr ⟨acc', tatV_of f3 (not_H I1), f4.1.mono vis_unhid, f4.2.1.mono vis_unhid⟩⟩
end
end Al

set_option Elab.async false
set_option linter.all false
set_option maxRecDepth 100000
set_option maxHeartbeats 1000000
/-! Vs: statements. -/
namespace Al
open PySem
inductive VOut where
  | nx (σ : VEnv) | ret (u : U) | bk (σ : VEnv) | ct (σ : VEnv)
abbrev VS := VEnv → Option VOut
/-- what stays: all but own objects -/
structure Kv (L ms : List Nat) (S S' : Store) : Prop where
  len : S.length ≤ S'.length
  get : ∀ i, i < S.length → i ∉ ms → S'[i]? = S[i]?
  nl : Nl L S → Nl L S'
def Nw (M' : List (Nat × Nat)) (ms : List Nat) (S : Store) : Prop := ∀ m ∈ M'.map (·.2), m ∈ ms ∨ S.length ≤ m
abbrev Cv.wm (c : Cv) (M : List (Nat × Nat)) : Cv := ⟨c.L, c.h, M⟩
section
variable (r : Txt → Txt) (b : Bool)
/-- a statement's end -/
def SSe (lo own' : List Nat) (c : Cv) (S : Store) (res : Res Out) : VOut → Prop
  | .nx σ' => ∃ ρ' S' M', res = .ok (.nx ρ') S' ∧ Iv r b own' (c.wm M') ρ' S' σ' ∧ Kv c.L c.ms S S' ∧ Nw M' c.ms S
  | .bk σ' => ∃ ρ' S' M', res = .ok (.bk ρ') S' ∧ Iv r b lo (c.wm M') ρ' S' σ' ∧ Kv c.L c.ms S S' ∧ Nw M' c.ms S
  | .ct σ' => ∃ ρ' S' M', res = .ok (.ct ρ') S' ∧ Iv r b lo (c.wm M') ρ' S' σ' ∧ Kv c.L c.ms S S' ∧ Nw M' c.ms S
  | .ret u => ∃ d S', res = .ok (.ret d) S' ∧ rep r (vis c.h S') u d ∧ Kv c.L c.ms S S'
def SS (lo own own' : List Nat) (B : SF) (V : VS) : Prop := ∀ c ρ S σ o, Iv r b own c ρ S σ → V σ = some o → SSe r b lo own' c S (B ρ S) o
/-- a new object -/
def SF' (own : List Nat) (E : EF) (V : VF) : Prop := ∀ c ρ S σ u, Iv r b own c ρ S σ → V σ = some u → ∃ m S', E ρ S = .ok (.ref m) S' ∧ Gr c.L S S' ∧ S.length ≤ m ∧ m < S'.length ∧ orep r (m :: c.H) S' u m
end
def vNx : VS := fun σ => some (.nx σ)
def vSeq (a b : VS) : VS := fun σ => (a σ).bind fun o => match o with
  | .nx σ1 => b σ1
  | o => some o
def vExpr (a : VF) : VS := fun σ => (a σ).bind fun _ => some (.nx σ)
def vRet (a : VF) : VS := fun σ => (a σ).bind fun u => some (.ret u)
def vRetN : VS := fun _ => some (.ret .non)
def vBk : VS := fun σ => some (.bk σ)
def vCt : VS := fun σ => some (.ct σ)
def vNever : VS := fun _ => none
def vSIf (t : VT) (a b : VS) : VS := fun σ => (t σ).bind fun k => if k = true then a σ else b σ
def vSet (i : Nat) (a : VF) : VS := fun σ => (a σ).bind fun u => some (.nx (σ.set i (some u)))
def vSetO (i : Nat) (a : VF) : VS := fun σ => (a σ).bind fun u => if i < σ.length then some (.nx (σ.set i (some u))) else none
def vAsg (t : Tg) (a : VF) : VS := fun σ => (a σ).bind fun u => (tgU t u σ).map .nx
def vPar (i j : Nat) (a : VA) : VS := fun σ => (a σ).bind fun us => match us with
  | [x, y] => some (.nx ((σ.set i (some x)).set j (some y)))
  | _ => none
def vforF (t : Tg) (body : VS) : List U → VEnv → Option VOut
  | [], σ => some (.nx σ)
  | x :: xs, σ => (tgU t x σ).bind fun σ1 => (body σ1).bind fun o => match o with
    | .nx σ2 => vforF t body xs σ2
    | .ct σ2 => vforF t body xs σ2
    | .bk σ2 => some (.nx σ2)
    | .ret u => some (.ret u)
def vFor (it : VA) (t : Tg) (body : VS) : VS := fun σ => (it σ).bind fun xs => vforF t body xs σ
def vApp (i : Nat) (a : VF) : VS := fun σ => match σ[i]? with
  | some (some (.lst us)) => (a σ).bind fun x => if us.length ≤ 1000000 then some (.nx (σ.set i (some (.lst (us ++ [x]))))) else none
  | _ => none
def vExt (i : Nat) (a : VF) : VS := fun σ => match σ[i]? with
  | some (some (.lst us)) => (a σ).bind fun x => match x with
    | .lst vs => if us.length + vs.length ≤ 1000000 then some (.nx (σ.set i (some (.lst (us ++ vs))))) else none
    | _ => none
  | _ => none
def vDput (i : Nat) (a k : VF) : VS := fun σ => match σ[i]? with
  | some (some (.dct ks us)) => (a σ).bind fun x => (k σ).bind fun y => match y with
    | .str z => if ks.length ≤ 1000000 then some (.nx (σ.set i (some (.dct (dPutV (ks, us) z x).1 (dPutV (ks, us) z x).2)))) else none
    | _ => none
  | _ => none
def vOpL (s : Sy) (va vc : VF) : VF := fun σ => (vOp (addV s) va vc σ).bind fun u => match u with
    | .lst us => some (.lst us)
    | _ => none
def vBody (n : Nat) (B : VS) (us : List U) : Option U := (B (us.map some ++ List.replicate (n - us.length) none)).bind fun o => match o with
  | .ret u => some u
  | .nx _ => some .non
  | _ => none
section
variable {r : Txt → Txt} {b : Bool} {L ms : List Nat} {S S' S'' : Store}
theorem Kv.refl : Kv L ms S S := ⟨Nat.le_refl _, fun _ _ _ => rfl, fun h => h⟩
theorem Gr.kv (g : Gr L S S') : Kv L ms S S' := ⟨g.le, fun i h _ => by
  obtain ⟨T, rfl⟩ := g.pre
  rw [List.getElem?_append_left h], g.nl⟩
theorem Kv.trans {ms1 : List Nat} (a : Kv L ms S S') (n : ∀ m ∈ ms1, m ∈ ms ∨ S.length ≤ m) (c : Kv L ms1 S' S'') : Kv L ms S S'' := ⟨Nat.le_trans a.len c.len, fun i h k => by
  rw [c.get i (Nat.lt_of_lt_of_le h a.len) fun z => by rcases n i z with z | z; exact k z; omega, a.get i h k], fun h => c.nl (a.nl h)⟩
theorem Nw.trans {M2 : List (Nat × Nat)} {ms1 : List Nat} (n : ∀ m ∈ ms1, m ∈ ms ∨ S.length ≤ m) (l : S.length ≤ S'.length) (k : Nw M2 ms1 S') : Nw M2 ms S := fun m hm => by
  rcases k m hm with z | z
  · exact n m z
  · exact .inr (by omega)
theorem Nw.refl {c : Cv} : Nw c.M c.ms S := fun m hm => .inl hm
theorem Kv.le {c : Cv} {M' : List (Nat × Nat)} (k : Kv c.L c.ms S S') (n : Nw M' c.ms S) : Le (vis c.H S) (vis (c.wm M').H S') := fun i o e => by
  unfold vis at e ⊢
  split at e
  · cases e
  · rename_i q
    have hi : i < S.length := by
      cases z : S[i]? with
      | none => rw [z] at e; cases e
      | some y => exact (List.getElem?_eq_some_iff.mp z).1
    have q1 : i ∉ c.h := fun z => q (List.mem_append_left _ z)
    have q2 : i ∉ c.ms := fun z => q (List.mem_append_right _ z)
    have q3 : i ∉ (c.wm M').H := fun z => by
      rcases List.mem_append.mp z with z | z
      · exact q1 z
      · rcases n i z with z | z
        · exact q2 z
        · omega
    rw [if_neg q3, k.get i hi q2]
    exact e
/-- fewer own objects -/
theorem Iv.rel {own own1 : List Nat} {c : Cv} {ρ : Env} {σ : VEnv} (I : Iv r b own c ρ S σ) (h : ∀ i ∈ own1, i ∈ own) : ∃ M1, (∀ p ∈ M1, p ∈ c.M) ∧ Iv r b own1 (c.wm M1) ρ S σ := by
  refine ⟨c.M.filter fun p => decide (p.1 ∈ own1), fun p hp => (List.mem_filter.mp hp).1, ?_⟩
  have sub : ∀ m ∈ ((c.M.filter fun p => decide (p.1 ∈ own1)).map (·.2)), m ∈ c.ms := fun m hm => by
    obtain ⟨p, hp, rfl⟩ := List.mem_map.mp hm
    exact List.mem_map.mpr ⟨p, (List.mem_filter.mp hp).1, rfl⟩
  have le : Le (vis c.H S) (vis (c.wm (c.M.filter fun p => decide (p.1 ∈ own1))).H S) := .sub fun i hi => by
    rcases List.mem_append.mp hi with z | z
    · exact List.mem_append_left _ z
    · exact List.mem_append_right _ (sub i z)
  refine ⟨I.lk, ?_, I.nl, ?_, ?_, ?_, I.len, ?_, ?_⟩
  · intro i
    constructor
    · intro hi
      obtain ⟨p, hp, rfl⟩ := List.mem_map.mp hi
      simpa using (List.mem_filter.mp hp).2
    · intro hi
      obtain ⟨p, hp, rfl⟩ := List.mem_map.mp ((I.ow i).mpr (h i hi))
      exact List.mem_map.mpr ⟨p, List.mem_filter.mpr ⟨hp, by simpa using hi⟩, rfl⟩
  · intro m hm
    rcases List.mem_append.mp hm with z | z
    · exact I.hb m (List.mem_append_left _ z)
    · exact I.hb m (List.mem_append_right _ (sub m z))
  · exact ((List.filter_sublist (l := c.M) (p := fun p => decide (p.1 ∈ own1))).map (fun p : Nat × Nat => p.2)).nodup I.nd
  · exact fun m hm => I.dj m (sub m hm)
  · intro i u e n
    by_cases q : i ∈ own
    · obtain ⟨⟨j, m⟩, hp, rfl⟩ := List.mem_map.mp ((I.ow i).mpr q)
      obtain ⟨u', e1, e2, e3⟩ := I.mo j m hp
      rw [e1] at e
      cases e
      refine ⟨_, e2, e3.rep (fun z => ?_) le⟩
      rcases List.mem_append.mp z with z | z
      · exact I.dj m (List.mem_map.mpr ⟨_, hp, rfl⟩) z
      · obtain ⟨⟨j', m'⟩, hp', rfl⟩ := List.mem_map.mp z
        have hp2 := List.mem_filter.mp hp'
        have : j' = j := by
          obtain ⟨_, _, f2, _⟩ := I.mo j' m' hp2.1
          -- the same number belongs to one slot
          have nd := I.nd
          unfold Cv.ms at nd
          have key : ∀ (M : List (Nat × Nat)), (M.map (·.2)).Nodup → (j, m') ∈ M → (j', m') ∈ M → j' = j := by
            intro M
            induction M with
            | nil => intro _ h; cases h
            | cons p M ih =>
              intro nd h1 h2
              simp only [List.map_cons, List.nodup_cons] at nd
              rcases List.mem_cons.mp h1 with e1 | q1
              · rcases List.mem_cons.mp h2 with e2 | q2
                · rw [← e1] at e2; cases e2; rfl
                · rw [← e1] at nd; exact absurd (List.mem_map.mpr ⟨(j', m'), q2, rfl⟩) nd.1
              · rcases List.mem_cons.mp h2 with e2 | q2
                · rw [← e2] at nd; exact absurd (List.mem_map.mpr ⟨(j, m'), q1, rfl⟩) nd.1
                · exact ih nd.2 q1 q2
          exact key c.M nd hp hp2.1
        subst this
        exact n (by simpa using hp2.2)
    · obtain ⟨d, e1, e2⟩ := I.pl i u e q
      exact ⟨d, e1, e2.mono le⟩
  · intro i m hm
    obtain ⟨u, e1, e2, e3⟩ := I.mo i m (List.mem_filter.mp hm).1
    exact ⟨u, e1, e2, e3.mono rfl le⟩
end
section
variable {s : Sy} {r : Txt → Txt} {b : Bool} {lo own own1 own' : List Nat}
theorem ss_nx : SS r b lo own own sNx vNx := fun c ρ S σ o I e => by cases e; exact ⟨ρ, S, c.M, rfl, I, .refl, .refl⟩
theorem ss_bk : SS r b lo lo own' sBk vBk := fun c ρ S σ o I e => by cases e; exact ⟨ρ, S, c.M, rfl, I, .refl, .refl⟩
theorem ss_ct : SS r b lo lo own' sCt vCt := fun c ρ S σ o I e => by cases e; exact ⟨ρ, S, c.M, rfl, I, .refl, .refl⟩
theorem ss_never : SS r b lo own own' sNever vNever := fun c ρ S σ o I e => by cases e
theorem ss_none {B : SF} : SS r b lo own own' B vNever := fun c ρ S σ o I e => by cases e
theorem ss_retN : SS r b lo own own' sRetN vRetN := fun c ρ S σ o I e => by cases e; exact ⟨_, S, rfl, rep_non.mpr rfl, .refl⟩
theorem SSe.up {c : Cv} {S S1 : Store} {M1 : List (Nat × Nat)} {res : Res Out} {o : VOut} (k : Kv c.L c.ms S S1) (n : Nw M1 c.ms S) (h : SSe r b lo own' (c.wm M1) S1 res o) : SSe r b lo own' c S res o := by
  cases o with
  | nx σ' => obtain ⟨ρ', S', M', e1, e2, e3, e4⟩ := h; exact ⟨ρ', S', M', e1, e2, k.trans n e3, e4.trans n k.len⟩
  | bk σ' => obtain ⟨ρ', S', M', e1, e2, e3, e4⟩ := h; exact ⟨ρ', S', M', e1, e2, k.trans n e3, e4.trans n k.len⟩
  | ct σ' => obtain ⟨ρ', S', M', e1, e2, e3, e4⟩ := h; exact ⟨ρ', S', M', e1, e2, k.trans n e3, e4.trans n k.len⟩
  | ret u => obtain ⟨d, S', e1, e2, e3⟩ := h; exact ⟨d, S', e1, e2, k.trans n e3⟩
theorem ss_seq {B1 B2 : SF} {V1 V2 : VS} (h1 : SS r b lo own own1 B1 V1) (h2 : SS r b lo own1 own' B2 V2) : SS r b lo own own' (sSeq B1 B2) (vSeq V1 V2) := fun c ρ S σ o I e => by
  obtain ⟨o1, e1, e⟩ := bnd e
  have g := h1 c ρ S σ o1 I e1
  cases o1 with
  | nx σ1 =>
    obtain ⟨ρ1, S1, M1, g1, g2, g3, g4⟩ := g
    have k := h2 (c.wm M1) ρ1 S1 σ1 o g2 e
    have : sSeq B1 B2 ρ S = B2 ρ1 S1 := by simp [sSeq, g1]
    rw [this]
    exact k.up g3 g4
  | bk σ1 => cases e; obtain ⟨ρ1, S1, M1, g1, g2⟩ := g; exact ⟨ρ1, S1, M1, by simp [sSeq, g1], g2⟩
  | ct σ1 => cases e; obtain ⟨ρ1, S1, M1, g1, g2⟩ := g; exact ⟨ρ1, S1, M1, by simp [sSeq, g1], g2⟩
  | ret u => cases e; obtain ⟨d, S1, g1, g2⟩ := g; exact ⟨d, S1, by simp [sSeq, g1], g2⟩
theorem ss_expr {E : EF} {V : VF} (h : SP r b own E V) : SS r b lo own own (sExpr E) (vExpr V) := fun c ρ S σ o I e => by
  obtain ⟨x, e1, e⟩ := bnd e
  cases e
  obtain ⟨d, S1, a1, a2, a3⟩ := h c ρ S σ x I e1
  exact ⟨ρ, S1, c.M, by simp [sExpr, a1], I.grow a2, a2.kv, .refl⟩
theorem ss_ret {E : EF} {V : VF} (h : SP r b own E V) : SS r b lo own own' (sRet E) (vRet V) := fun c ρ S σ o I e => by
  obtain ⟨x, e1, e⟩ := bnd e
  cases e
  obtain ⟨d, S1, a1, a2, a3⟩ := h c ρ S σ x I e1
  exact ⟨d, S1, by simp [sRet, a1], a3.mono (.sub fun i hi => List.mem_append_left _ hi), a2.kv⟩
theorem ss_if {t : TF} {vt : VT} {B1 B2 : SF} {V1 V2 : VS} (ht : STt r b own t vt) (h1 : SS r b lo own own' B1 V1) (h2 : SS r b lo own own' B2 V2) : SS r b lo own own' (sIf t B1 B2) (vSIf vt V1 V2) := fun c ρ S σ o I e => by
  obtain ⟨k, e1, e⟩ := bnd e
  obtain ⟨S1, a1, a2⟩ := ht c ρ S σ k I e1
  cases k
  · have := h2 c ρ S1 σ o (I.grow a2) (by simpa using e)
    rw [show sIf t B1 B2 ρ S = B2 ρ S1 by simp [sIf, a1]]
    exact this.up a2.kv .refl
  · have := h1 c ρ S1 σ o (I.grow a2) (by simpa using e)
    rw [show sIf t B1 B2 ρ S = B1 ρ S1 by simp [sIf, a1]]
    exact this.up a2.kv .refl
theorem ss_set (i : Nat) (hi : i ∉ own) {E : EF} {V : VF} (h : SP r b own E V) : SS r b lo own own (sSet i E) (vSet i V) := fun c ρ S σ o I e => by
  obtain ⟨x, e1, e⟩ := bnd e
  cases e
  obtain ⟨d, S1, a1, a2, a3⟩ := h c ρ S σ x I e1
  exact ⟨_, S1, c.M, by simp [sSet, a1], (I.grow a2).set hi a3, a2.kv, .refl⟩
theorem ss_asg {t : Tg} (hi : ∀ i ∈ t.slots, i ∉ own) {E : EF} {V : VF} (h : SP r b own E V) : SS r b lo own own (sAsg t E) (vAsg t V) := fun c ρ S σ o I e => by
  obtain ⟨x, e1, e⟩ := bnd e
  obtain ⟨σ1, e2, rfl⟩ := Option.map_eq_some_iff.mp e
  obtain ⟨d, S1, a1, a2, a3⟩ := h c ρ S σ x I e1
  obtain ⟨ρ1, g1, g2⟩ := tg_ok hi (I.grow a2) a3 e2
  exact ⟨_, S1, c.M, by simp [sAsg, a1, g1], g2, a2.kv, .refl⟩
theorem ss_par {i j : Nat} (hi : i ∉ own) (hj : j ∉ own) {A : AF} {V : VA} (h : SA r b own A V) : SS r b lo own own (sPar i j A) (vPar i j V) := fun c ρ S σ o I e => by
  obtain ⟨x, e1, e⟩ := bnd e
  obtain ⟨ds, S1, a1, a2, a3⟩ := h c ρ S σ x I e1
  split at e
  · cases e
    obtain ⟨d, w, rfl, k1, k2⟩ := a3.cons_iff
    obtain ⟨d', w, rfl, k3, k4⟩ := k2.cons_iff
    rw [k4.nil_iff] at a1
    exact ⟨_, S1, c.M, by simp [sPar, a1], ((I.grow a2).set hi k1).set hj k3, a2.kv, .refl⟩
  · cases e
theorem ss_rel {B : SF} {V : VS} (hs : ∀ i ∈ own1, i ∈ own) (h : SS r b lo own1 own' B V) : SS r b lo own own' B V := fun c ρ S σ o I e => by
  obtain ⟨M1, m1, J⟩ := I.rel hs
  exact (h (c.wm M1) ρ S σ o J e).up .refl fun m hm => .inl (by
    obtain ⟨p, hp, rfl⟩ := List.mem_map.mp hm
    exact List.mem_map.mpr ⟨p, m1 p hp, rfl⟩)
theorem ss_post {B : SF} {V : VS} (hs : ∀ i ∈ own', i ∈ own1) (h : SS r b lo own own1 B V) : SS r b lo own own' B V := fun c ρ S σ o I e => by
  have g := h c ρ S σ o I e
  cases o with
  | nx σ' =>
    obtain ⟨ρ1, S1, M1, g1, g2, g3, g4⟩ := g
    obtain ⟨M2, m2, J⟩ := g2.rel hs
    exact ⟨ρ1, S1, M2, g1, J, g3, fun m hm => g4 m (by
      obtain ⟨p, hp, rfl⟩ := List.mem_map.mp hm
      exact List.mem_map.mpr ⟨p, m2 p hp, rfl⟩)⟩
  | bk σ' => exact g
  | ct σ' => exact g
  | ret u => exact g
/-! own objects -/
theorem ss_own (i : Nat) (hi : i ∉ own) {E : EF} {V : VF} (h : SF' r b own E V) : SS r b lo own (i :: own) (sSet i E) (vSetO i V) := fun c ρ S σ o I e => by
  obtain ⟨x, e1, e⟩ := bnd e
  split at e
  case isFalse => cases e
  rename_i hil
  cases e
  obtain ⟨m, S1, a1, a2, a3, a4, a5⟩ := h c ρ S σ x I e1
  have mH : m ∉ c.H := fun z => by have := I.hb m z; omega
  have le : Le (vis c.H S) (vis (c.wm ((i, m) :: c.M)).H S1) := fun j o z => by
    have hj : j < S.length := by
      unfold vis at z
      split at z
      · cases z
      · cases q : S[j]? with
        | none => rw [q] at z; cases z
        | some y => exact (List.getElem?_eq_some_iff.mp q).1
    have z' := a2.vis (H := c.H) j o z
    unfold vis at z' ⊢
    split at z'
    · cases z'
    · rename_i q
      have : j ∉ (c.wm ((i, m) :: c.M)).H := fun w => by
        rcases List.mem_append.mp w with w | w
        · exact q (List.mem_append_left _ w)
        · simp only [Cv.ms, List.map_cons, List.mem_cons] at w
          rcases w with w | w
          · omega
          · exact q (List.mem_append_right _ w)
      rw [if_neg this]
      exact z'
  have le2 : Le (vis (m :: c.H) S1) (vis (c.wm ((i, m) :: c.M)).H S1) := .sub fun j hj => by
    rcases List.mem_append.mp hj with w | w
    · exact List.mem_cons_of_mem _ (List.mem_append_left _ w)
    · simp only [Cv.ms, List.map_cons, List.mem_cons] at w
      rcases w with w | w
      · rw [w]; exact List.mem_cons_self
      · exact List.mem_cons_of_mem _ (List.mem_append_right _ w)
  refine ⟨_, S1, (i, m) :: c.M, by simp [sSet, a1]; rfl, ⟨I.lk, ?_, a2.nl I.nl, ?_, ?_, ?_, by simp [I.len], ?_, ?_⟩, a2.kv, ?_⟩
  · intro j
    simp only [List.map_cons, List.mem_cons]
    rw [I.ow j]
  · intro j hj
    rcases List.mem_append.mp hj with w | w
    · have := I.hb j (List.mem_append_left _ w); have := a2.le; omega
    · simp only [Cv.ms, List.map_cons, List.mem_cons] at w
      rcases w with w | w
      · omega
      · have := I.hb j (List.mem_append_right _ w); have := a2.le; omega
  · simp only [Cv.ms, List.map_cons, List.nodup_cons]
    exact ⟨fun w => mH (List.mem_append_right _ w), I.nd⟩
  · intro j hj
    simp only [Cv.ms, List.map_cons, List.mem_cons] at hj
    rcases hj with rfl | hj
    · exact fun w => mH (List.mem_append_left _ w)
    · exact I.dj j hj
  · intro j u hj n
    simp only [List.mem_cons, not_or] at n
    rw [List.getElem?_set_ne (Ne.symm n.1)] at hj
    obtain ⟨d, f1, f2⟩ := I.pl j u hj n.2
    exact ⟨d, by rw [List.getElem?_set_ne (Ne.symm n.1)]; exact f1, f2.mono le⟩
  · intro j k hj
    rcases List.mem_cons.mp hj with hj | hj
    · cases hj
      exact ⟨x, List.getElem?_set_self hil, List.getElem?_set_self (I.len ▸ hil), a5.mono rfl le2⟩
    · obtain ⟨u, f1, f2, f3⟩ := I.mo j k hj
      have ne : i ≠ j := fun z => hi ((I.ow i).mp (by rw [z]; exact List.mem_map.mpr ⟨_, hj, rfl⟩))
      refine ⟨u, by rw [List.getElem?_set_ne ne]; exact f1, by rw [List.getElem?_set_ne ne]; exact f2, f3.mono ?_ le⟩
      have : k < S.length := I.hb k (List.mem_append_right _ (List.mem_map.mpr ⟨_, hj, rfl⟩))
      obtain ⟨T, rfl⟩ := a2.pre
      rw [List.getElem?_append_left this]
  · intro j hj
    simp only [List.map_cons, List.mem_cons] at hj
    rcases hj with rfl | hj
    · exact .inr a3
    · exact .inl hj
/-- return of a variable with an object of its own -/
theorem ss_retv (i : Nat) : SS r b lo own own' (sRet (eVar i)) (vRet (vVar i)) := fun c ρ S σ o I e => by
  obtain ⟨x, e1, e⟩ := bnd e
  cases e
  have e2 := vVar_of e1
  by_cases hi : i ∈ own
  · obtain ⟨⟨j, m⟩, hp, rfl⟩ := List.mem_map.mp ((I.ow i).mpr hi)
    obtain ⟨u, f1, f2, f3⟩ := I.mo j m hp
    rw [f1] at e2
    cases e2
    exact ⟨.ref m, S, by simp [sRet, ev_of f2], f3.rep (I.dj m (List.mem_map.mpr ⟨_, hp, rfl⟩)) (.sub fun i hi => List.mem_append_left _ hi), .refl⟩
  · obtain ⟨d, f1, f2⟩ := I.pl i x e2 hi
    exact ⟨d, S, by simp [sRet, ev_of f1], f2.mono (.sub fun i hi => List.mem_append_left _ hi), .refl⟩
/-- an own object changes -/
theorem Iv.chg {c : Cv} {ρ : Env} {S : Store} {σ : VEnv} (I : Iv r b own c ρ S σ) {i m : Nat} (hp : (i, m) ∈ c.M) {o : O} (ho : unlO o = o) {u : U} (h : orep r c.H (S.set m o) u m) : Iv r b own c ρ (S.set m o) (σ.set i (some u)) ∧ Kv c.L c.ms S (S.set m o) := by
  have hm : m ∈ c.ms := List.mem_map.mpr ⟨_, hp, rfl⟩
  have hH : m ∈ c.H := List.mem_append_right _ hm
  have hown : i ∈ own := (I.ow i).mp (List.mem_map.mpr ⟨_, hp, rfl⟩)
  obtain ⟨u0, f1, f2, f3⟩ := I.mo i m hp
  have hil : i < σ.length := (List.getElem?_eq_some_iff.mp f1).1
  refine ⟨⟨I.lk, I.ow, I.nl.set ho, fun k hk => by simpa using I.hb k hk, I.nd, I.dj, by simp [I.len], ?_, ?_⟩, ⟨by simp, fun j _ hj => by rw [List.getElem?_set_ne fun (z : m = j) => hj (z ▸ hm)], fun h => h.set ho⟩⟩
  · intro j w e n
    have ne : i ≠ j := fun z => n (z ▸ hown)
    rw [List.getElem?_set_ne ne] at e
    obtain ⟨d, g1, g2⟩ := I.pl j w e n
    exact ⟨d, g1, by rw [vis_set hH]; exact g2⟩
  · intro j k hk
    by_cases q : i = j
    · subst q
      obtain ⟨u1, g1, g2, g3⟩ := I.mo i k hk
      rw [f2] at g2
      cases g2
      exact ⟨u, List.getElem?_set_self hil, f2, h⟩
    · obtain ⟨u1, g1, g2, g3⟩ := I.mo j k hk
      refine ⟨u1, by rw [List.getElem?_set_ne q]; exact g1, g2, ?_⟩
      have nk : m ≠ k := fun z => by
        subst z
        have key : ∀ (M : List (Nat × Nat)), (M.map (·.2)).Nodup → (i, m) ∈ M → (j, m) ∈ M → j = i := by
          intro M
          induction M with
          | nil => intro _ h; cases h
          | cons p M ih =>
            intro nd h1 h2
            simp only [List.map_cons, List.nodup_cons] at nd
            rcases List.mem_cons.mp h1 with e1 | q1
            · rcases List.mem_cons.mp h2 with e2 | q2
              · rw [← e1] at e2; cases e2; rfl
              · rw [← e1] at nd; exact absurd (List.mem_map.mpr ⟨(j, m), q2, rfl⟩) nd.1
            · rcases List.mem_cons.mp h2 with e2 | q2
              · rw [← e2] at nd; exact absurd (List.mem_map.mpr ⟨(i, m), q1, rfl⟩) nd.1
              · exact ih nd.2 q1 q2
        exact q (key c.M I.nd hp hk).symm
      exact g3.mono (List.getElem?_set_ne nk) (by rw [vis_set hH]; exact fun _ _ z => z)
theorem own_at {c : Cv} {ρ : Env} {S : Store} {σ : VEnv} (I : Iv r b own c ρ S σ) {i : Nat} (hi : i ∈ own) {u : U} (e : σ[i]? = some (some u)) : ∃ m, (i, m) ∈ c.M ∧ ρ[i]? = some (some (.ref m)) ∧ orep r c.H S u m := by
  obtain ⟨⟨j, m⟩, hp, rfl⟩ := List.mem_map.mp ((I.ow i).mpr hi)
  obtain ⟨u', f1, f2, f3⟩ := I.mo j m hp
  rw [f1] at e
  cases e
  exact ⟨m, hp, f2, f3⟩
theorem v_tyl {S : Store} {n : Nat} {xs : List D} (h : S[n]? = some (.lst xs)) : tyD "list" (.ref n) S = true := by
  unfold tyD; simp only [h]; rfl
theorem v_app {S : Store} {n : Nat} {xs : List D} {y : D} (h : S[n]? = some (.lst xs)) (l : xs.length < lim) : appendM (.ref n) [y] S = some (.non, S.set n (.lst (xs ++ [y]))) := by
  unfold appendM; simp only [h, if_pos l]
theorem v_ext {S : Store} {n m : Nat} {xs ys : List D} (h : S[n]? = some (.lst xs)) (i : S[m]? = some (.lst ys)) (l : xs.length + ys.length ≤ lim) : extendM (.ref n) [.ref m] S = some (.non, S.set n (.lst (xs ++ ys))) := by
  unfold extendM; simp only [h, i, if_pos l]
theorem ss_app (i : Nat) (hi : i ∈ own) {E : EF} {V : VF} (h : SP r b own E V) : SS r b lo own own (sExpr (eM "list" appendM (eVar i) (aCons E aNil))) (vApp i V) := fun c ρ S σ o I e => by
  unfold vApp at e
  split at e
  case h_2 => cases e
  rename_i us es
  obtain ⟨x, e1, e⟩ := bnd e
  split at e
  case isFalse => cases e
  rename_i hl
  cases e
  obtain ⟨m, hp, f2, ds, g1, g2⟩ := own_at I hi es
  obtain ⟨d, S1, a1, a2, a3⟩ := h c ρ S σ x I e1
  have I1 := I.grow a2
  have g3 := pre_get a2.pre g1
  have ml : m < S1.length := (List.getElem?_eq_some_iff.mp g3).1
  have mH : m ∈ c.H := List.mem_append_right _ (List.mem_map.mpr ⟨_, hp, rfl⟩)
  obtain ⟨J, K⟩ := I1.chg hp (o := .lst (ds ++ [d])) rfl (u := .lst (us ++ [x])) ⟨_, List.getElem?_set_self ml, by rw [vis_set mH]; exact (g2.mono a2.vis).append (.cons a3 .nil)⟩
  have ln := g2.length
  refine ⟨ρ, _, c.M, ?_, J, a2.kv.trans (fun m hm => .inl hm) K, .refl⟩
  simp only [sExpr, eM, ev_of f2, Res.bind_ok]
  rw [if_pos (v_tyl g1)]
  simp only [aCons, aNil, a1, Res.bind_ok]
  rw [v_app g3 (by simp only [lim_is]; omega)]
  rfl
theorem ss_ext (i : Nat) (hi : i ∈ own) {E : EF} {V : VF} (h : SL r b own E V) : SS r b lo own own (sExpr (eM "list" extendM (eVar i) (aCons E aNil))) (vExt i V) := fun c ρ S σ o I e => by
  unfold vExt at e
  split at e
  case h_2 => cases e
  rename_i us es
  obtain ⟨x, e1, e⟩ := bnd e
  cases x <;> try (cases e; done)
  rename_i vs
  simp only at e
  split at e
  case isFalse => cases e
  rename_i hl
  cases e
  obtain ⟨m, hp, f2, ds, g1, g2⟩ := own_at I hi es
  obtain ⟨d, S1, a1, a2, a3⟩ := h c ρ S σ _ I e1
  obtain ⟨k, ds2, rfl, g4, g5⟩ := r1_lst a3
  have I1 := I.grow a2
  have g3 := pre_get a2.pre g1
  have ml : m < S1.length := (List.getElem?_eq_some_iff.mp g3).1
  have mH : m ∈ c.H := List.mem_append_right _ (List.mem_map.mpr ⟨_, hp, rfl⟩)
  obtain ⟨J, K⟩ := I1.chg hp (o := .lst (ds ++ ds2)) rfl (u := .lst (us ++ vs)) ⟨_, List.getElem?_set_self ml, by rw [vis_set mH]; exact (g2.mono a2.vis).append g5⟩
  have ln := g2.length
  have ln2 := g5.length
  refine ⟨ρ, _, c.M, ?_, J, a2.kv.trans (fun m hm => .inl hm) K, .refl⟩
  simp only [sExpr, eM, ev_of f2, Res.bind_ok]
  rw [if_pos (v_tyl g1)]
  simp only [aCons, aNil, a1, Res.bind_ok]
  rw [v_ext g3 g4 (by simp only [lim_is]; omega)]
  rfl
theorem ss_dput (R : Rn s r) (i : Nat) (hi : i ∈ own) {E Ek : EF} {V Vk : VF} (h : SP r b own E V) (hk : SP r b own Ek Vk) : SS r b lo own own (sPut putO E (eVar i) Ek) (vDput i V Vk) := fun c ρ S σ o I e => by
  unfold vDput at e
  split at e
  case h_2 => cases e
  rename_i ks us es
  obtain ⟨x, e1, e⟩ := bnd e
  obtain ⟨y, e2, e⟩ := bnd e
  cases y <;> try (cases e; done)
  rename_i z
  simp only at e
  split at e
  case isFalse => cases e
  rename_i hl
  cases e
  obtain ⟨m, hp, f2, kvs, g1, g2, g2'⟩ := own_at I hi es
  obtain ⟨d, S1, a1, a2, a3⟩ := h c ρ S σ _ I e1
  have I1 := I.grow a2
  obtain ⟨dk, S2, b1, b2, b3⟩ := hk c ρ S1 σ _ I1 e2
  obtain rfl := rep_str.mp b3
  have I2 := I1.grow b2
  have g3 := pre_get b2.pre (pre_get a2.pre g1)
  have ml : m < S2.length := (List.getElem?_eq_some_iff.mp g3).1
  have mH : m ∈ c.H := List.mem_append_right _ (List.mem_map.mpr ⟨_, hp, rfl⟩)
  have pd := dPut_ok (k := z) R (a3.mono b2.vis) (p := (ks, us)) (kvs := kvs) ⟨g2, (g2'.mono a2.vis).mono b2.vis⟩
  obtain ⟨J, K⟩ := I2.chg hp (o := .dct (dPut kvs (r z) d)) rfl (u := .dct (dPutV (ks, us) z x).1 (dPutV (ks, us) z x).2) ⟨_, List.getElem?_set_self ml, pd.1, by rw [vis_set mH]; exact pd.2⟩
  have ln : kvs.length = ks.length := by simpa using congrArg List.length g2
  refine ⟨ρ, _, c.M, ?_, J, (a2.trans b2).kv.trans (fun m hm => .inl hm) K, .refl⟩
  simp only [sPut, a1, Res.bind_ok, ev_of f2, b1, putO, dctAt, g3, Option.bind_some]
  rw [if_pos (by simp only [lim_is]; omega)]
/-! new objects -/
theorem sf_new {c : Cv} {ρ : Env} {S : Store} {σ : VEnv} (I : Iv r b own c ρ S σ) {us : List U} {ds : List D} (h : reps r (vis c.H S) us ds) : orep r (S.length :: c.H) (S ++ [.lst ds]) (.lst us) S.length := by
  refine ⟨ds, by simp, h.mono fun i o e => ?_⟩
  have hi : i < S.length := by
    unfold vis at e
    split at e
    · cases e
    · cases q : S[i]? with
      | none => rw [q] at e; cases e
      | some y => exact (List.getElem?_eq_some_iff.mp q).1
  have e' := Le.pre (H := c.H) (List.prefix_append S [.lst ds]) i o e
  unfold vis at e' ⊢
  split at e'
  · cases e'
  · rename_i q
    rw [if_neg (fun z => by rcases List.mem_cons.mp z with z | z; omega; exact q z)]
    exact e'
theorem sf_lst {a : AF} {vl : VA} (h : SA r b own a vl) : SF' r b own (eLst a) (vLst vl) := fun c ρ S σ u I e => by
  obtain ⟨xs, e1, e⟩ := bnd e
  split at e
  · rename_i q
    cases e
    obtain ⟨ds, S1, a1, a2, a3⟩ := h c ρ S σ xs I e1
    exact ⟨S1.length, _, by simp only [eLst, a1, Res.bind_ok]; rw [if_pos (by rw [a3.length]; exact q)], a2.trans (Gr.app _ rfl), a2.le, by simp, sf_new (I.grow a2) a3⟩
  · cases e
theorem sf_d0 : SF' r b own eD0 (fun _ => some (.dct [] [])) := fun c ρ S σ u I e => by
  cases e
  exact ⟨S.length, _, rfl, Gr.app _ rfl, Nat.le_refl _, by simp, [], by simp, rfl, .nil⟩
theorem sf_list {a : AF} {vl : VA} (h : SAl r b own a vl) : SF' r b own (eCall listF a) (vCall listV vl) := fun c ρ S σ u I e => by
  obtain ⟨xs, e1, e⟩ := bnd e
  obtain ⟨ds, S1, a1, a2, a3⟩ := h c ρ S σ xs I e1
  have I1 := I.grow a2
  unfold listV at e
  split at e
  · cases e
    obtain ⟨d, rfl, h1⟩ := all2_1 a3
    obtain ⟨ds, rfl, k⟩ := r1_tup h1
    exact ⟨S1.length, _, by simp only [eCall, a1, Res.bind_ok, listF, Res.of], a2.trans (Gr.app _ rfl), a2.le, by simp, sf_new I1 k⟩
  · cases e
    obtain ⟨d, rfl, h1⟩ := all2_1 a3
    obtain ⟨n, ds, rfl, g, k⟩ := r1_lst h1
    exact ⟨S1.length, _, by simp only [eCall, a1, Res.bind_ok, listF, Res.of, lstAt_of S1 g, Option.map_some], a2.trans (Gr.app _ rfl), a2.le, by simp, sf_new I1 k⟩
  · cases e
theorem sf_add (R : Rn s r) {ea ec : EF} {va vc : VF} (ha : SL r b own ea va) (hc : SL r b own ec vc) : SF' r b own (eOp addO ea ec) (vOpL s va vc) := fun c ρ S σ u I e => by
  obtain ⟨w, e0, e⟩ := bnd e
  obtain ⟨x, e1, e0⟩ := bnd e0
  obtain ⟨y, e2, e0⟩ := bnd e0
  obtain ⟨d1, S1, a1, a2, a3⟩ := ha c ρ S σ x I e1
  have I1 := I.grow a2
  obtain ⟨d2, S2, c1, c2, c3⟩ := hc c ρ S1 σ y I1 e2
  have I2 := I1.grow c2
  unfold addV at e0
  split at e0
  · cases e0; cases e
  · split at e0
    · cases e0; cases e
    · cases e0
  · split at e0
    · cases e0; cases e
    · cases e0
  · split at e0
    · rename_i q
      cases e0
      cases e
      obtain ⟨n, ds, rfl, g1, k1⟩ := r1_lst (a3.pre c2.pre); obtain ⟨m, es, rfl, g2, k2⟩ := r1_lst c3
      exact ⟨S2.length, _, by simp only [eOp, a1, c1, Res.bind_ok, addO, g1, g2]; rw [if_pos (by rw [k1.length, k2.length]; exact q)]; rfl, (a2.trans c2).trans (Gr.app _ rfl), (a2.trans c2).le, by simp, sf_new I2 (k1.append k2)⟩
    · cases e0
  · cases e0
theorem sf_lc {it : IF} {t : Tg} {ti : TF} {el : EF} {vs : List Nat} {vi : VA} {vti : VT} {vel : VF} (hi : SI r b own it vi) (ht : ∀ i ∈ t.slots, i ∉ own) (hv : ∀ i ∈ vs, i ∉ own) (h1 : STt r b own ti vti) (h2 : SP r b own el vel) : SF' r b own (eLc it t ti el vs) (vLc vi t vti vel vs) := fun c ρ S σ u I e => by
  obtain ⟨us, e1, e⟩ := bnd e
  split at e
  case isFalse => cases e
  rename_i hl
  obtain ⟨out, e2, rfl⟩ := Option.map_eq_some_iff.mp e
  obtain ⟨src, S1, a1, a2, ds, a3, a4, a5⟩ := hi c ρ S σ us I e1
  have I1 := I.grow a2
  have I2 := (I1.hide (o := .lst []) rfl).wipe hv
  have len : ds.length = us.length := a3.length
  obtain ⟨S', acc', f1, f2, f3, f4⟩ := vlc_run (n := S1.length) (c := c.hid S1.length) (S1 := S1 ++ [.lst []]) hid_mem ht h1 h2 (fun S'' i le hi => a5 S'' i (fun j o z => vis_unhid _ _ (le j o (vis_hid _ _ z))) hi) (by omega) us 0 src.fuel (S1 ++ [.lst []]) [] [] out (by simpa using a3.mono vis_hid) (Nat.zero_le _) (by omega) I2 (fun _ _ z => z) (by simp) (by simp) .nil e2
  exact ⟨S1.length, S', by simp only [eLc, a1, Res.bind_ok]; exact f1, a2.trans (f2.gr rfl), a2.le, by have := f2.len; simp at this; omega, acc', f3, by have f5 := f4; rw [List.nil_append] at f5; exact f5⟩
/-! for -/
theorem vfor_run {t : Tg} {B : SF} {V : VS} {nxt : Nat → Store → Option (Option D)} {c0 : Cv} {S1 : Store} {ds : List D} (ht : ∀ i ∈ t.slots, i ∉ own) (hB : SS r b own own own B V)
    (hx : ∀ S'' i, Le (vis c0.H S1) (vis c0.H S'') → i ≤ ds.length → nxt i S'' = nxL ds i) :
    ∀ (ws : List U) (i m : Nat) (M : List (Nat × Nat)) (ρ : Env) (σ : VEnv) (S : Store) (o : VOut), reps r (vis c0.H S1) ws (ds.drop i) → i ≤ ds.length → ds.length < m + i → Iv r b own (c0.wm M) ρ S σ → Kv c0.L c0.ms S1 S → Nw M c0.ms S1 → vforF t V ws σ = some o →
      SSe r b lo own c0 S1 (forF nxt t B m i ρ S) o := by
  intro ws
  induction ws with
  | nil =>
    intro i m M ρ σ S o hw hi hm I k n e
    cases e
    have : i = ds.length := by
      have := hw.length
      simp at this
      omega
    subst this
    cases m with
    | zero => omega
    | succ m =>
      have le : Le (vis c0.H S1) (vis c0.H S) := k.le (M' := c0.M) .refl
      refine ⟨ρ, S, M, ?_, I, k, n⟩
      unfold forF
      rw [hx S _ le (Nat.le_refl _)]
      simp [nxL]
  | cons w ws ih =>
    intro i m M ρ σ S o hw hi hm I k n e
    obtain ⟨d, x, hd, k1, k2⟩ := hw.cons_iff
    have hi' : i < ds.length := by
      have := congrArg List.length hd
      simp at this
      omega
    have hd' : ds[i]? = some d ∧ x = ds.drop (i + 1) := by
      have h3 := List.drop_eq_getElem_cons hi'
      rw [hd] at h3
      injection h3 with h4 h5
      exact ⟨by rw [List.getElem?_eq_getElem hi', h4], h5⟩
    cases m with
    | zero => omega
    | succ m =>
      have le : Le (vis c0.H S1) (vis c0.H S) := k.le (M' := c0.M) .refl
      obtain ⟨σ1, g1, e⟩ := bnd e
      obtain ⟨o1, g2, e⟩ := bnd e
      obtain ⟨ρ1, t1, I1⟩ := tg_ok ht I (k1.mono (k.le n)) g1
      have hnx : nxt i S = some (some d) := by
        rw [hx S i le (Nat.le_of_lt hi')]
        unfold nxL
        rw [if_neg (by omega), hd'.1]; rfl
      have gb := hB (c0.wm M) ρ1 S σ1 o1 I1 g2
      unfold forF
      simp only [hnx, t1]
      cases o1 with
      | nx σ2 =>
        obtain ⟨ρ2, S2, M2, f1, f2, f3, f4⟩ := gb
        simp only [f1, Res.bind_ok]
        exact ih (i + 1) m M2 ρ2 σ2 S2 o (hd'.2 ▸ k2) hi' (by omega) f2 (k.trans n f3) (f4.trans n k.len) e
      | ct σ2 =>
        obtain ⟨ρ2, S2, M2, f1, f2, f3, f4⟩ := gb
        simp only [f1, Res.bind_ok]
        exact ih (i + 1) m M2 ρ2 σ2 S2 o (hd'.2 ▸ k2) hi' (by omega) f2 (k.trans n f3) (f4.trans n k.len) e
      | bk σ2 =>
        cases e
        obtain ⟨ρ2, S2, M2, f1, f2, f3, f4⟩ := gb
        simp only [f1, Res.bind_ok]
        exact ⟨ρ2, S2, M2, rfl, f2, k.trans n f3, f4.trans n k.len⟩
      | ret u =>
        cases e
        obtain ⟨d2, S2, f1, f2, f3⟩ := gb
        simp only [f1, Res.bind_ok]
        exact ⟨d2, S2, rfl, f2, k.trans n f3⟩
theorem ss_for {it : IF} {t : Tg} {B : SF} {vi : VA} {V : VS} (hi : SI r b own it vi) (ht : ∀ i ∈ t.slots, i ∉ own) (hB : SS r b own own own B V) : SS r b lo own own (sFor it t B) (vFor vi t V) := fun c ρ S σ o I e => by
  obtain ⟨us, e1, e⟩ := bnd e
  obtain ⟨src, S1, a1, a2, ds, a3, a4, a5⟩ := hi c ρ S σ us I e1
  have := vfor_run (lo := lo) (c0 := c) ht hB a5 us 0 src.fuel c.M ρ σ S1 o (by simpa using a3) (Nat.zero_le _) (by omega) (I.grow a2) .refl .refl e
  rw [show sFor it t B ρ S = forF src.nxt t B src.fuel 0 ρ S1 by simp [sFor, a1]]
  exact this.up (c := c) (M1 := c.M) a2.kv .refl
/-! defs -/
theorem iv_start {L h : List Nat} {S : Store} {us : List U} {ds : List D} (n : Nat) (lk : b = true → L = []) (nl : Nl L S) (hb : ∀ m ∈ h, m < S.length) (hs : reps r (vis h S) us ds) : Iv r b [] ⟨L, h, []⟩ (startE n ds) S (us.map some ++ List.replicate (n - us.length) none) := by
  have ln := hs.length
  refine ⟨lk, fun i => by simp, nl, fun m hm => hb m (by simpa [Cv.H, Cv.ms] using hm), by simp [Cv.ms], fun m hm => by simp [Cv.ms] at hm, by simp [startE, ln], ?_, fun i m hm => by simp at hm⟩
  intro i u e _
  have hi : i < us.length := by
    by_cases q : i < us.length
    · exact q
    · rw [List.getElem?_append_right (by simp; omega)] at e
      have := List.mem_of_getElem? e
      simp at this
  rw [List.getElem?_append_left (by simpa using hi)] at e
  simp at e
  obtain ⟨d, e1, e2⟩ := hs.get e
  refine ⟨d, ?_, by simpa [Cv.H, Cv.ms] using e2⟩
  unfold startE
  rw [List.getElem?_append_left (by simp; omega)]
  simp [e1]
theorem kv_gr {L : List Nat} {S S' : Store} (k : Kv L [] S S') : Gr L S S' := by
  refine ⟨⟨S'.drop S.length, ?_⟩, k.nl⟩
  apply List.ext_getElem?
  intro i
  by_cases hi : i < S.length
  · rw [List.getElem?_append_left hi, k.get i hi (by simp)]
  · rw [List.getElem?_append_right (by omega), List.getElem?_drop]
    congr 1
    omega
theorem pu_body {n : Nat} {B : SF} {V : VS} (h : SS r b [] [] own' B V) : Pu r b (bodyF n B) (vBody n V) := fun L H S us ds u lk nl hb hs e => by
  obtain ⟨o, e1, e⟩ := bnd e
  have g := h ⟨L, H, []⟩ _ S _ o (iv_start n lk nl hb hs) e1
  cases o with
  | nx σ =>
    cases e
    obtain ⟨ρ', S', M', f1, f2, f3, f4⟩ := g
    exact ⟨.non, S', by simp [bodyF, f1], kv_gr f3, rep_non.mpr rfl⟩
  | ret u =>
    cases e
    obtain ⟨d, S', f1, f2, f3⟩ := g
    exact ⟨d, S', by simp [bodyF, f1], kv_gr f3, f2⟩
  | bk σ => cases e
  | ct σ => cases e
theorem pu_zero {C : CF} : Pu r b C (fun _ => none) := fun L H S us ds u lk nl hb hs e => by cases e
end
end Al

set_option Elab.async false
set_option linter.all false
set_option maxRecDepth 100000
set_option maxHeartbeats 1000000
/-! Vs: {k: v, ..}, two fors, locks. -/
namespace Al
open PySem
abbrev VP := VEnv → Option (List (Txt × U))
def vqNil : VP := fun _ => some []
def vqCons (k v : VF) (q : VP) : VP := fun σ => (k σ).bind fun x => (v σ).bind fun y => (q σ).bind fun ps => match x with
  | .str z => some ((z, y) :: ps)
  | _ => none
def vDisp (q : VP) : VF := fun σ => (q σ).bind fun ps => if ps.length ≤ 15 then some (let p := ps.foldl (fun p x => dPutV p x.1 x.2) ([], []); .dct p.1 p.2) else none
/-- pairs -/
def rep2 (r : Txt → Txt) (v : View) : List (Txt × U) → List (D × D) → Prop
  | [], ds => ds = []
  | p :: ps, ds => ∃ d e, ds = (.str (r p.1), d) :: e ∧ rep r v p.2 d ∧ rep2 r v ps e
def SQ (r : Txt → Txt) (b : Bool) (own : List Nat) (Q : PFs) (V : VP) : Prop := ∀ c ρ S σ ps, Iv r b own c ρ S σ → V σ = some ps → ∃ ds S', Q ρ S = .ok ds S' ∧ Gr c.L S S' ∧ rep2 r (vis c.H S') ps ds
section
variable {s : Sy} {r : Txt → Txt} {b : Bool} {own : List Nat}
theorem rep2.mono {v v' : View} (l : Le v v') : ∀ {ps : List (Txt × U)} {ds : List (D × D)}, rep2 r v ps ds → rep2 r v' ps ds
  | [], ds, h => h
  | p :: ps, ds, h => by obtain ⟨d, e, rfl, h1, h2⟩ := h; exact ⟨d, e, rfl, h1.mono l, rep2.mono l h2⟩
theorem sq_nil : SQ r b own qNil vqNil := fun c ρ S σ ps I e => by cases e; exact ⟨[], S, rfl, .refl, rfl⟩
theorem sq_cons {ek ev : EF} {q : PFs} {vk vv : VF} {vq : VP} (hk : SP r b own ek vk) (hv : SP r b own ev vv) (hq : SQ r b own q vq) : SQ r b own (qCons ek ev q) (vqCons vk vv vq) := fun c ρ S σ ps I e => by
  obtain ⟨x, e1, e⟩ := bnd e
  obtain ⟨y, e2, e⟩ := bnd e
  obtain ⟨ps', e3, e⟩ := bnd e
  cases x <;> try (cases e; done)
  cases e
  obtain ⟨d1, S1, a1, a2, a3⟩ := hk c ρ S σ _ I e1
  have I1 := I.grow a2
  obtain ⟨d2, S2, c1, c2, c3⟩ := hv c ρ S1 σ y I1 e2
  have I2 := I1.grow c2
  obtain ⟨ds, S3, f1, f2, f3⟩ := hq c ρ S2 σ ps' I2 e3
  obtain rfl := rep_str.mp a3
  exact ⟨_, S3, by simp [qCons, a1, c1, f1], (a2.trans c2).trans f2, d2, ds, rfl, c3.mono f2.vis, f3⟩
theorem merge_ok (R : Rn s r) {v : View} : ∀ (ps : List (Txt × U)) (ds : List (D × D)) (p : List Txt × List U) (kvs : List (Txt × D)), rep2 r v ps ds → repD r v p kvs → ∃ ks, mapO asKey ds = some ks ∧ ks.length = ps.length ∧ repD r v (ps.foldl (fun p x => dPutV p x.1 x.2) p) (dMerge kvs ks)
  | [], ds, p, kvs, h, k => by rw [show ds = [] from h]; exact ⟨[], rfl, rfl, k⟩
  | q :: ps, ds, p, kvs, h, k => by
    obtain ⟨d, e, rfl, h1, h2⟩ := h
    obtain ⟨ks, e1, e2, e3⟩ := merge_ok R ps e (dPutV p q.1 q.2) (dPut kvs (r q.1) d) h2 (dPut_ok R h1 k)
    refine ⟨(r q.1, d) :: ks, by simp [mapO, asKey, e1], by simp [e2], ?_⟩
    simpa [dMerge] using e3
theorem sp_disp (R : Rn s r) {q : PFs} {vq : VP} (hq : SQ r b own q vq) : SP r b own (eDisp q) (vDisp vq) := fun c ρ S σ u I e => by
  obtain ⟨ps, e1, e⟩ := bnd e
  split at e
  case isFalse => cases e
  rename_i hl
  cases e
  obtain ⟨ds, S1, a1, a2, a3⟩ := hq (c.hid S.length) ρ (S ++ [.dct []]) σ ps (I.hide (o := .dct []) rfl) e1
  obtain ⟨ks, e2, e3, e4⟩ := merge_ok R ps ds ([], []) [] a3 ⟨rfl, .nil⟩
  have g : S1[S.length]? = some (.dct []) := pre_get a2.pre (by simp)
  have gl : S.length < S1.length := (List.getElem?_eq_some_iff.mp g).1
  have hH : S.length ∈ (c.hid S.length).H := List.mem_append_left _ List.mem_cons_self
  have gn : Gn c.L S.length (S ++ [.dct []]) (S1.set S.length (.dct (dMerge [] ks))) := Gn.trans (Gr.gn a2) (Gn.put rfl)
  refine ⟨.ref S.length, S1.set S.length (.dct (dMerge [] ks)), ?_, gn.gr rfl, rep_dct.mpr ⟨_, datV_of (.inl (List.getElem?_set_self gl)) (not_H I), e4.1, ?_⟩⟩
  · simp only [eDisp, a1, Res.bind_ok, g, e2]
    rw [if_pos (by omega)]
  · have := e4.2.mono (v' := vis (c.hid S.length).H (S1.set S.length (.dct (dMerge [] ks)))) (by rw [vis_set hH]; exact fun _ _ z => z)
    exact this.mono vis_unhid
end
/-! ### two fors -/
def vlc2F (t : Tg) (ti : VT) (it1 : VA) (t1 : Tg) (ti1 : VT) (el : VF) (vs1 : List Nat) (σ : VEnv) : List U → Option (List U)
  | [] => some []
  | x :: xs => (tgU t x σ).bind fun σ1 => (ti σ1).bind fun k => if k = true then (it1 σ1).bind fun ys => if ys.length ≤ 1000 then (vlcF t1 ti1 el (wipeV σ1 vs1) ys).bind fun a => (vlc2F t ti it1 t1 ti1 el vs1 σ xs).map (a ++ ·) else none else vlc2F t ti it1 t1 ti1 el vs1 σ xs
def vLc2 (it : VA) (t : Tg) (ti : VT) (it1 : VA) (t1 : Tg) (ti1 : VT) (el : VF) (vs vs1 : List Nat) : VF := fun σ => (it σ).bind fun xs => if xs.length ≤ 10000 then (vlc2F t ti it1 t1 ti1 el vs1 (wipeV σ vs) xs).map U.lst else none
section
variable {s : Sy} {r : Txt → Txt} {b : Bool} {own : List Nat}
theorem vlc2I_run {t : Tg} {ti : TF} {el : EF} {vti : VT} {vel : VF} {nxt : Nat → Store → Option (Option D)} {n : Nat} {c : Cv} {ρ : Env} {σ : VEnv} {S1 : Store} {ds : List D} {B : Nat} (hn : n ∈ c.h) (ht : ∀ i ∈ t.slots, i ∉ own) (h1 : STt r b own ti vti) (h2 : SP r b own el vel)
    (hx : ∀ S'' i, Le (vis c.H S1) (vis c.H S'') → i ≤ ds.length → nxt i S'' = nxL ds i) (hl : ds.length + B ≤ 16000000) :
    ∀ (ws : List U) (i m : Nat) (S : Store) (accU : List U) (acc : List D) (out : List U), reps r (vis c.H S1) ws (ds.drop i) → i ≤ ds.length → ds.length < m + i → Iv r b own c ρ S σ → Le (vis c.H S1) (vis c.H S) → S[n]? = some (.lst acc) → acc.length ≤ i + B → reps r (vis c.H S) accU acc → vlcF t vti vel σ ws = some out →
      ∃ S' acc', lc2I nxt t ti el n m i ρ S = .ok () S' ∧ Gn c.L n S S' ∧ S'[n]? = some (.lst acc') ∧ acc'.length ≤ ds.length + B ∧ reps r (vis c.H S') (accU ++ out) acc' := by
  have hH : n ∈ c.H := by unfold Cv.H; exact List.mem_append_left _ hn
  intro ws
  induction ws with
  | nil =>
    intro i m S accU acc out hw hi hm I le e1 hal e2 e
    cases e
    have : i = ds.length := by
      have := hw.length
      simp at this
      omega
    subst this
    cases m with
    | zero => omega
    | succ m =>
      refine ⟨S, acc, ?_, .refl, e1, hal, by simpa using e2⟩
      unfold lc2I
      rw [hx S _ le (Nat.le_refl _)]
      simp [nxL]
  | cons w ws ih =>
    intro i m S accU acc out hw hi hm I le e1 hal e2 e
    obtain ⟨d, x, hd, k1, k2⟩ := hw.cons_iff
    have hi' : i < ds.length := by
      have := congrArg List.length hd
      simp at this
      omega
    have hd' : ds[i]? = some d ∧ x = ds.drop (i + 1) := by
      have h3 := List.drop_eq_getElem_cons hi'
      rw [hd] at h3
      injection h3 with h4 h5
      exact ⟨by rw [List.getElem?_eq_getElem hi', h4], h5⟩
    cases m with
    | zero => omega
    | succ m =>
      obtain ⟨σ1, g1, e⟩ := bnd e
      obtain ⟨k, g2, e⟩ := bnd e
      obtain ⟨ρ1, t1, I1⟩ := tg_ok ht I (k1.mono le) g1
      obtain ⟨S2, b1, b2⟩ := h1 c ρ1 S σ1 k I1 g2
      have hnx : nxt i S = some (some d) := by
        rw [hx S i le (Nat.le_of_lt hi')]
        unfold nxL
        rw [if_neg (by omega), hd'.1]; rfl
      unfold lc2I
      simp only [hnx, t1, b1, Res.quiet, Res.bind_ok]
      cases k
      · simp at e
        obtain ⟨S3, acc', f1, f2, f3, f4⟩ := ih (i + 1) m S2 accU acc out (hd'.2 ▸ k2) hi' (by omega) (I.grow b2) (fun j o z => b2.vis j o (le j o z)) (pre_get b2.pre e1) (by omega) (e2.mono b2.vis) e
        exact ⟨S3, acc', by simpa using f1, b2.gn.trans f2, f3, f4⟩
      · simp only [if_true] at e
        obtain ⟨y, g3, e⟩ := bnd e
        obtain ⟨out', g4, rfl⟩ := Option.map_eq_some_iff.mp e
        obtain ⟨dy, S3, q1, q2, q3⟩ := h2 c ρ1 S2 σ1 y (I1.grow b2) g3
        have e3 : S3[n]? = some (.lst acc) := pre_get q2.pre (pre_get b2.pre e1)
        have nl3 : n < S3.length := (List.getElem?_eq_some_iff.mp e3).1
        have I3 : Iv r b own c ρ S3 σ := (I.grow b2).grow q2
        have vs : vis c.H (S3.set n (.lst (acc ++ [dy]))) = vis c.H S3 := vis_set hH
        obtain ⟨S4, acc', f1, f2, f3, f4, f5⟩ := ih (i + 1) m (S3.set n (.lst (acc ++ [dy]))) (accU ++ [y]) (acc ++ [dy]) out' (hd'.2 ▸ k2) hi' (by omega) (I3.put hn rfl) (by rw [vs]; exact fun j o z => q2.vis j o (b2.vis j o (le j o z))) (List.getElem?_set_self nl3) (by simp; omega) (by rw [vs]; exact ((e2.mono b2.vis).mono q2.vis).append (.cons q3 .nil)) g4
        refine ⟨S4, acc', ?_, ((b2.gn.trans q2.gn).trans (Gn.put rfl)).trans f2, f3, f4, by simpa using f5⟩
        simp only [if_true, q1, Res.quiet, Res.bind_ok, e3]
        rw [if_pos (by simp only [lim_is]; omega)]
        exact f1
theorem vlc2_run {t t1 : Tg} {ti ti1 : TF} {it1 : IF} {el : EF} {vti vti1 : VT} {vi1 : VA} {vel : VF} {vs1 : List Nat} {nxt : Nat → Store → Option (Option D)} {n : Nat} {c : Cv} {ρ : Env} {σ : VEnv} {S1 : Store} {ds : List D} (hn : n ∈ c.h) (ht : ∀ i ∈ t.slots, i ∉ own) (ht1 : ∀ i ∈ t1.slots, i ∉ own) (hv1 : ∀ i ∈ vs1, i ∉ own) (h1 : STt r b own ti vti) (hi1 : SI r b own it1 vi1) (h3 : STt r b own ti1 vti1) (h2 : SP r b own el vel)
    (hx : ∀ S'' i, Le (vis c.H S1) (vis c.H S'') → i ≤ ds.length → nxt i S'' = nxL ds i) (hl : ds.length ≤ 10000) :
    ∀ (ws : List U) (i m : Nat) (S : Store) (accU : List U) (acc : List D) (out : List U), reps r (vis c.H S1) ws (ds.drop i) → i ≤ ds.length → ds.length < m + i → Iv r b own c ρ S σ → Le (vis c.H S1) (vis c.H S) → S[n]? = some (.lst acc) → acc.length ≤ 1000 * i → reps r (vis c.H S) accU acc → vlc2F t vti vi1 t1 vti1 vel vs1 σ ws = some out →
      ∃ S' acc', lc2F nxt t ti it1 t1 ti1 el vs1 n m i ρ S = .ok (.ref n) S' ∧ Gn c.L n S S' ∧ S'[n]? = some (.lst acc') ∧ reps r (vis c.H S') (accU ++ out) acc' := by
  have hH : n ∈ c.H := by unfold Cv.H; exact List.mem_append_left _ hn
  intro ws
  induction ws with
  | nil =>
    intro i m S accU acc out hw hi hm I le e1 hal e2 e
    cases e
    have : i = ds.length := by
      have := hw.length
      simp at this
      omega
    subst this
    cases m with
    | zero => omega
    | succ m =>
      refine ⟨S, acc, ?_, .refl, e1, by simpa using e2⟩
      unfold lc2F
      rw [hx S _ le (Nat.le_refl _)]
      simp [nxL]
  | cons w ws ih =>
    intro i m S accU acc out hw hi hm I le e1 hal e2 e
    obtain ⟨d, x, hd, k1, k2⟩ := hw.cons_iff
    have hi' : i < ds.length := by
      have := congrArg List.length hd
      simp at this
      omega
    have hd' : ds[i]? = some d ∧ x = ds.drop (i + 1) := by
      have h3 := List.drop_eq_getElem_cons hi'
      rw [hd] at h3
      injection h3 with h4 h5
      exact ⟨by rw [List.getElem?_eq_getElem hi', h4], h5⟩
    cases m with
    | zero => omega
    | succ m =>
      obtain ⟨σ1, g1, e⟩ := bnd e
      obtain ⟨k, g2, e⟩ := bnd e
      obtain ⟨ρ1, tg1, I1⟩ := tg_ok ht I (k1.mono le) g1
      obtain ⟨S2, b1, b2⟩ := h1 c ρ1 S σ1 k I1 g2
      have hnx : nxt i S = some (some d) := by
        rw [hx S i le (Nat.le_of_lt hi')]
        unfold nxL
        rw [if_neg (by omega), hd'.1]; rfl
      unfold lc2F
      simp only [hnx, tg1, b1, Res.quiet, Res.bind_ok]
      cases k
      · simp at e
        obtain ⟨S3, acc', f1, f2, f3, f4⟩ := ih (i + 1) m S2 accU acc out (hd'.2 ▸ k2) hi' (by omega) (I.grow b2) (fun j o z => b2.vis j o (le j o z)) (pre_get b2.pre e1) (by omega) (e2.mono b2.vis) e
        exact ⟨S3, acc', by simpa using f1, b2.gn.trans f2, f3, f4⟩
      · simp only [if_true] at e
        obtain ⟨ys, g3, e⟩ := bnd e
        split at e
        case isFalse => cases e
        rename_i yl
        obtain ⟨a, g4, e⟩ := bnd e
        obtain ⟨out', g5, rfl⟩ := Option.map_eq_some_iff.mp e
        have I2 := I1.grow b2
        obtain ⟨src, S3, q1, q2, ds1, q3, q4, q5⟩ := hi1 c ρ1 S2 σ1 ys I2 g3
        have I3 := (I2.grow q2).wipe hv1
        have e3 : S3[n]? = some (.lst acc) := pre_get q2.pre (pre_get b2.pre e1)
        have len1 : ds1.length = ys.length := q3.length
        obtain ⟨S4, acc4, p1, p2, p3, p4, p5⟩ := vlc2I_run (B := acc.length) hn ht1 h3 h2 q5 (by omega) ys 0 src.fuel S3 accU acc a (by simpa using q3) (Nat.zero_le _) (by omega) I3 (fun _ _ z => z) e3 (by omega) ((e2.mono b2.vis).mono q2.vis) g4
        obtain ⟨S5, acc', f1, f2, f3, f4⟩ := ih (i + 1) m S4 (accU ++ a) acc4 out' (hd'.2 ▸ k2) hi' (by omega) (((I.grow b2).grow q2).gn p2 hn) (fun j o z => p2.le hH j o (q2.vis j o (b2.vis j o (le j o z)))) p3 (by omega) p5 g5
        refine ⟨S5, acc', ?_, ((b2.gn.trans q2.gn).trans p2).trans f2, f3, by simpa using f4⟩
        simp only [if_true, q1, Res.quiet, Res.bind_ok, p1]
        exact f1
theorem sp_lc2 {it it1 : IF} {t t1 : Tg} {ti ti1 : TF} {el : EF} {vs vs1 : List Nat} {vi vi1 : VA} {vti vti1 : VT} {vel : VF} (hi : SI r b own it vi) (ht : ∀ i ∈ t.slots, i ∉ own) (ht1 : ∀ i ∈ t1.slots, i ∉ own) (hv : ∀ i ∈ vs, i ∉ own) (hv1 : ∀ i ∈ vs1, i ∉ own) (h1 : STt r b own ti vti) (hi1 : SI r b own it1 vi1) (h3 : STt r b own ti1 vti1) (h2 : SP r b own el vel) : SP r b own (eLc2 it t ti it1 t1 ti1 el vs vs1) (vLc2 vi t vti vi1 t1 vti1 vel vs vs1) := fun c ρ S σ u I e => by
  obtain ⟨us, e1, e⟩ := bnd e
  split at e
  case isFalse => cases e
  rename_i hl
  obtain ⟨out, e2, rfl⟩ := Option.map_eq_some_iff.mp e
  obtain ⟨src, S1, a1, a2, ds, a3, a4, a5⟩ := hi c ρ S σ us I e1
  have I1 := I.grow a2
  have I2 := (I1.hide (o := .lst []) rfl).wipe hv
  have len : ds.length = us.length := a3.length
  obtain ⟨S', acc', f1, f2, f3, f4⟩ := vlc2_run (n := S1.length) (c := c.hid S1.length) (S1 := S1 ++ [.lst []]) hid_mem ht ht1 hv1 h1 hi1 h3 h2 (fun S'' i le hi => a5 S'' i (fun j o z => vis_unhid _ _ (le j o (vis_hid _ _ z))) hi) (by omega) us 0 src.fuel (S1 ++ [.lst []]) [] [] out (by simpa using a3.mono vis_hid) (Nat.zero_le _) (by omega) I2 (fun _ _ z => z) (by simp) (by simp) .nil e2
  refine ⟨.ref S1.length, S', by simp only [eLc2, a1, Res.bind_ok]; exact f1, a2.trans (f2.gr rfl), rep_lst.mpr ⟨acc', latV_of f3 (not_H I1), ?_⟩⟩
  simpa using f4.mono vis_unhid
end
/-! ### locks -/
def vLock (v : Nat) (F : VF) : VF := fun σ => match σ[v]? with
  | some (some (.dct _ _)) => F σ
  | some (some (.tdct _ _)) => F σ
  | _ => none
section
variable {s : Sy} {r : Txt → Txt} {b : Bool} {own : List Nat}
theorem vis_lock {H : List Nat} {S : Store} {n : Nat} {o o' : O} (e : S[n]? = some o) (h : unlO o' = unlO o) : vis H (S.set n o') = vis H S := by
  funext i
  unfold vis
  split
  · rfl
  · by_cases q : n = i
    · subst q
      rw [List.getElem?_set_self (List.getElem?_eq_some_iff.mp e).1, e]
      simp [h]
    · rw [List.getElem?_set_ne q]
theorem lock_un {o o' : O} (h : lockO o = some o') : unlO o' = unlO o ∧ unlO o = o := by
  unfold lockO at h
  split at h
  · cases h; exact ⟨rfl, rfl⟩
  · cases h; exact ⟨rfl, rfl⟩
  · cases h
/-- the dict of a slot is locked -/
theorem Iv.lock {c : Cv} {ρ : Env} {S : Store} {σ : VEnv} (I : Iv r true own c ρ S σ) {n : Nat} {o o' : O} (e : S[n]? = some o) (h : lockO o = some o') (hn : n ∉ c.H) : Iv r false own ⟨[n], c.h, c.M⟩ ρ (S.set n o') σ := by
  have vs : ∀ H, vis H (S.set n o') = vis H S := fun H => vis_lock e (lock_un h).1
  refine ⟨(fun z => nomatch z), I.ow, ?_, fun m hm => by simpa using I.hb m hm, I.nd, I.dj, I.len, ?_, ?_⟩
  · intro i x ex hi
    have : n ≠ i := fun z => hi (by simp [z])
    rw [List.getElem?_set_ne this] at ex
    exact I.nl i x ex (by rw [I.lk rfl]; simp)
  · intro i u e1 n1
    obtain ⟨d, f1, f2⟩ := I.pl i u e1 n1
    exact ⟨d, f1, by rw [vs]; exact f2⟩
  · intro i m hm
    obtain ⟨u, f1, f2, f3⟩ := I.mo i m hm
    have : n ≠ m := fun z => hn (by rw [z]; exact List.mem_append_right _ (List.mem_map.mpr ⟨_, hm, rfl⟩))
    exact ⟨u, f1, f2, f3.mono (List.getElem?_set_ne this) (by rw [vs]; exact fun _ _ z => z)⟩
theorem vdnum {c : Cv} {ρ : Env} {S : Store} {σ : VEnv} (I : Iv r true own c ρ S σ) {v : Nat} (hv : v ∉ own) {u : U} (e : σ[v]? = some (some u)) (h : (∃ ks us, u = .dct ks us) ∨ ∃ ks us, u = .tdct ks us) : ∃ n o o', dnum v ρ S = some (n, o, o') ∧ S[n]? = some o ∧ lockO o = some o' ∧ n ∉ c.H ∧ ρ[v]? = some (some (.ref n)) := by
  obtain ⟨d, f1, f2⟩ := I.pl v u e hv
  have nl := I.nl
  rw [I.lk rfl] at nl
  rcases h with ⟨ks, us, rfl⟩ | ⟨ks, us, rfl⟩
  · obtain ⟨kvs, g1, _⟩ := rep_dct.mp f2
    obtain ⟨n, rfl, g2, g3⟩ := datV_nl nl g1
    exact ⟨n, .dct kvs, .ldct kvs, by simp [dnum, f1, g2, lockO], g2, rfl, g3, f1⟩
  · obtain ⟨kvs, g1, _⟩ := rep_tdct.mp f2
    obtain ⟨n, l, rfl, g2, g3⟩ := tatV_vis g1
    have : l = false := by
      have := nl n _ g2 (by simp)
      simp [unlO] at this
      exact this
    subst this
    exact ⟨n, .tdct false kvs, .tdct true kvs, by simp [dnum, f1, g2, lockO], g2, rfl, g3, f1⟩
theorem unlock_gr {S S' : Store} {n : Nat} {o o' : O} (e : S[n]? = some o) (h : lockO o = some o') (g : Gr [n] (S.set n o') S') : Gr [] S (S'.set n o) ∧ ∀ H, vis H (S'.set n o) = vis H S' := by
  have nl : n < S.length := (List.getElem?_eq_some_iff.mp e).1
  have e' : S'[n]? = some o' := pre_get g.pre (List.getElem?_set_self nl)
  have lu := lock_un h
  refine ⟨⟨?_, ?_⟩, fun H => vis_lock e' lu.1.symm⟩
  · obtain ⟨T, hT⟩ := g.pre
    refine ⟨T, ?_⟩
    rw [← hT, List.set_append_left _ _ (by simpa using nl), List.set_set]
    congr 1
    apply List.ext_getElem?
    intro i
    by_cases q : n = i
    · subst q; rw [List.getElem?_set_self nl, e]
    · rw [List.getElem?_set_ne q]
  · intro hN i x ex hi
    by_cases q : n = i
    · subst q
      rw [List.getElem?_set_self (List.getElem?_eq_some_iff.mp e').1] at ex
      cases ex
      exact lu.2
    · rw [List.getElem?_set_ne q] at ex
      refine g.nl ?_ i x ex (by simp; exact fun z => q z.symm)
      intro j y ey hj
      have : n ≠ j := fun z => hj (by simp [z])
      rw [List.getElem?_set_ne this] at ey
      exact hN j y ey (by simp)
/-- the object in slot v is locked -/
def Lkd (v : Nat) (ρ : Env) (S : Store) : Prop := ∃ n o o', ρ[v]? = some (some (.ref n)) ∧ S[n]? = some o' ∧ lockO o = some o'
theorem sp_lockp (v : Nat) (hv : v ∉ own) {F : EF} {V : VF} (h : ∀ c ρ S σ u, Iv r false own c ρ S σ → Lkd v ρ S → V σ = some u → ∃ d S', F ρ S = .ok d S' ∧ Gr c.L S S' ∧ rep r (vis c.H S') u d) : SP r true own (eLock v F) (vLock v V) := fun c ρ S σ u I e => by
  have key : ∀ w, σ[v]? = some (some w) → ((∃ ks us, w = .dct ks us) ∨ ∃ ks us, w = .tdct ks us) → V σ = some u → ∃ d S', eLock v F ρ S = .ok d S' ∧ Gr c.L S S' ∧ rep r (vis c.H S') u d := by
    intro w hw hh e
    obtain ⟨n, o, o', d1, d2, d3, d4, d5⟩ := vdnum I hv hw hh
    obtain ⟨d, S', a1, a2, a3⟩ := h ⟨[n], c.h, c.M⟩ ρ (S.set n o') σ u (I.lock d2 d3 d4) ⟨n, o, o', d5, List.getElem?_set_self (List.getElem?_eq_some_iff.mp d2).1, d3⟩ e
    obtain ⟨g1, g2⟩ := unlock_gr d2 d3 a2
    refine ⟨d, S'.set n o, by simp [eLock, d1, a1, unlk], by rw [I.lk rfl]; exact g1, by rw [g2]; exact a3⟩
  unfold vLock at e
  split at e
  · rename_i q; exact key _ q (.inl ⟨_, _, rfl⟩) e
  · rename_i q; exact key _ q (.inr ⟨_, _, rfl⟩) e
  · cases e
theorem keysT_at {c : Cv} {ρ : Env} {S : Store} {σ : VEnv} {v : Nat} (hv : v ∉ own) (I : Iv r b own c ρ S σ) (l : Lkd v ρ S) : ∀ us, vKeysT (vVar v) σ = some us → ∃ src S', iKeyT (eVar v) ρ S = .ok src S' ∧ Gr c.L S S' ∧ SrcV r c.H S' us src := by
  intro us e
  obtain ⟨x, e1, e⟩ := bnd e
  cases x <;> try (cases e; done)
  cases e
  obtain ⟨d, f1, f2⟩ := I.pl v _ (vVar_of e1) hv
  obtain ⟨kvs, g1, g2, g3⟩ := rep_tdct.mp f2
  obtain ⟨n, l', rfl, g4, g5⟩ := tatV_vis g1
  obtain ⟨n', o, o', l1, l2, l3⟩ := l
  rw [f1] at l1
  cases l1
  rw [g4] at l2
  cases l2
  have : l' = true := by
    unfold lockO at l3
    split at l3
    · cases l3
    · cases l3; rfl
    · cases l3
  subst this
  exact ⟨⟨(kvs.map (·.1)).length + 1, fun i _ => nxL (kvs.map (·.1)) i⟩, S, by simp [iKeyT, ev_of f1, keysT, g4], .refl, kvs.map (·.1), g2, by simp, fun S'' i _ _ => rfl⟩
theorem keys_at {c : Cv} {ρ : Env} {S : Store} {σ : VEnv} {v : Nat} (hv : v ∉ own) (I : Iv r b own c ρ S σ) (l : Lkd v ρ S) : ∀ us, vKeys (vVar v) σ = some us → ∃ src S', iKey (eVar v) ρ S = .ok src S' ∧ Gr c.L S S' ∧ SrcV r c.H S' us src := by
  intro us e
  obtain ⟨x, e1, e⟩ := bnd e
  cases x <;> try (cases e; done)
  rename_i ks ws
  cases e
  obtain ⟨d, f1, f2⟩ := I.pl v _ (vVar_of e1) hv
  obtain ⟨kvs, g1, g2, g3⟩ := rep_dct.mp f2
  obtain ⟨n, rfl, g4, g5⟩ := datV_vis g1
  obtain ⟨n', o, o', l1, l2, l3⟩ := l
  rw [f1] at l1
  cases l1
  have g4 : S[n]? = some (.ldct kvs) := by
    rcases g4 with g4 | g4
    · rw [g4] at l2
      cases l2
      unfold lockO at l3
      split at l3
      · cases l3
      · cases l3
      · cases l3
    · exact g4
  have k3 : (kvs.map fun p => D.str p.1) = (ks.map r).map .str := by rw [← g2, List.map_map]; rfl
  exact ⟨⟨(kvs.map fun p => D.str p.1).length + 1, fun i _ => nxL (kvs.map fun p => D.str p.1) i⟩, S, by simp [iKey, ev_of f1, keysOf, g4], .refl, kvs.map fun p => D.str p.1, by rw [k3]; exact reps.of_strs ks, by simp, fun S'' i _ _ => rfl⟩
theorem sp_lockLcT (v : Nat) (hv : v ∉ own) {t : Tg} {ti : TF} {el : EF} {vs : List Nat} {vti : VT} {vel : VF} (ht : ∀ i ∈ t.slots, i ∉ own) (hvs : ∀ i ∈ vs, i ∉ own) (h1 : STt r false own ti vti) (h2 : SP r false own el vel) : SP r true own (eLock v (eLc (iKeyT (eVar v)) t ti el vs)) (vLock v (vLc (vKeysT (vVar v)) t vti vel vs)) :=
  sp_lockp v hv fun c ρ S σ u I l e => sp_lc_at I (keysT_at hv I l) ht hvs h1 h2 e
theorem sp_lockLc (v : Nat) (hv : v ∉ own) {t : Tg} {ti : TF} {el : EF} {vs : List Nat} {vti : VT} {vel : VF} (ht : ∀ i ∈ t.slots, i ∉ own) (hvs : ∀ i ∈ vs, i ∉ own) (h1 : STt r false own ti vti) (h2 : SP r false own el vel) : SP r true own (eLock v (eLc (iKey (eVar v)) t ti el vs)) (vLock v (vLc (vKeys (vVar v)) t vti vel vs)) :=
  sp_lockp v hv fun c ρ S σ u I l e => sp_lc_at I (keys_at hv I l) ht hvs h1 h2 e
theorem sp_lockDc (R : Rn s r) (v : Nat) (hv : v ∉ own) {t : Tg} {ti : TF} {ek ev : EF} {vs : List Nat} {vti : VT} {vk vv : VF} (ht : ∀ i ∈ t.slots, i ∉ own) (hvs : ∀ i ∈ vs, i ∉ own) (h1 : STt r false own ti vti) (h2 : SP r false own ek vk) (h3 : SP r false own ev vv) : SP r true own (eLock v (eDc (iKey (eVar v)) t ti ek ev vs)) (vLock v (vDc (vKeys (vVar v)) t vti vk vv vs)) :=
  sp_lockp v hv fun c ρ S σ u I l e => sp_dc_at R I (keys_at hv I l) ht hvs h1 h2 h3 e
end
end Al

set_option Elab.async false
set_option linter.all false
set_option maxRecDepth 100000
set_option maxHeartbeats 1000000
/-! Vs: how it is computed, for simp. -/
namespace Al
/-- nothing is renamed -/
abbrev s0 : Sy := ⟨[], []⟩
theorem rn0 : Rn s0 id := ⟨fun _ _ => rfl, fun _ _ h => h, fun x y h => (by cases h), fun x h => (by cases h), fun x h => (by cases h)⟩
@[simp] theorem free0 (x : Txt) : s0.free x = true := rfl
@[simp] theorem cmp0 (x y : Txt) : cmpS s0 x y = true := rfl
theorem vlc_map {t : Tg} {el : VF} {σ : VEnv} (g : U → U) : ∀ (xs : List U), (∀ x ∈ xs, ∃ σ1, tgU t x σ = some σ1 ∧ el σ1 = some (g x)) → vlcF t (fun _ => some true) el σ xs = some (xs.map g)
  | [], _ => rfl
  | x :: xs, h => by
    obtain ⟨σ1, e1, e2⟩ := h x List.mem_cons_self
    simp [vlcF, e1, e2, vlc_map g xs fun y hy => h y (List.mem_cons_of_mem _ hy)]
end Al

set_option Elab.async false
set_option linter.all false
set_option maxRecDepth 100000
set_option maxHeartbeats 1000000
/-! Vs: code that changes some objects of the store: a state is handed on. -/
namespace Al
open PySem
/-- a state that lies in objects with these numbers -/
structure Rsc (X : Type) where
  ix : List Nat
  rel : View → Store → X → Prop
  grow : ∀ {v v' : View} {S S' : Store} {x : X}, rel v S x → S <+: S' → Le v v' → rel v' S' x
inductive XR (X : Type) where
  | ok (u : U) (x : X) | ex (w : U) (x : X)
inductive XO (X : Type) where
  | nx (σ : VEnv) (x : X) | ct (σ : VEnv) (x : X) | bk (σ : VEnv) (x : X) | ret (u : U) (x : X) | ex (w : U) (x : X)
/-- where exceptions come from -/
structure Xx where
  cls : Addr
  fld : Str
def Xx.xc (e : Xx) (d : D) : Xc := ⟨e.cls, [(e.fld, d)]⟩
section
variable (r : Txt → Txt) (b : Bool) {X : Type} (Q : Rsc X) (fx : List (Nat × Nat)) (xx : Xx)
structure Ix (c : Cv) (ρ : Env) (S : Store) (σ : VEnv) (x : X) : Prop where
  iv : Iv r b [] c ρ S σ
  hid : ∀ i ∈ Q.ix, i ∈ c.h
  fx : ∀ p ∈ fx, ρ[p.1]? = some (some (.ref p.2))
  re : Q.rel (vis c.H S) S x
/-- what is known behind -/
structure Bx (c : Cv) (S S' : Store) (x' : X) : Prop where
  kv : Kv c.L Q.ix S S'
  re : Q.rel (vis c.H S') S' x'
def XS (E : EF) (V : VEnv → X → Option U) : Prop := ∀ c ρ S σ x u, Ix r b Q fx c ρ S σ x → V σ x = some u → ∃ d S', E ρ S = .ok d S' ∧ Gr c.L S S' ∧ rep r (vis c.H S') u d
def XL (E : EF) (V : VEnv → X → Option U) : Prop := ∀ c ρ S σ x u, Ix r b Q fx c ρ S σ x → V σ x = some u → ∃ d S', E ρ S = .ok d S' ∧ Gr c.L S S' ∧ rep1 r c.H S' u d
def XT (T : TF) (V : VEnv → X → Option Bool) : Prop := ∀ c ρ S σ x k, Ix r b Q fx c ρ S σ x → V σ x = some k → ∃ S', T ρ S = .ok k S' ∧ Gr c.L S S'
def XEe (c : Cv) (S : Store) (res : Res D) : XR X → Prop
  | .ok u x' => ∃ d S', res = .ok d S' ∧ Bx Q c S S' x' ∧ rep r (vis c.H S') u d
  | .ex w x' => ∃ d S', res = .exc (xx.xc d) S' ∧ Bx Q c S S' x' ∧ rep r (vis c.H S') w d
def XE (E : EF) (V : VEnv → X → Option (XR X)) : Prop := ∀ c ρ S σ x o, Ix r b Q fx c ρ S σ x → V σ x = some o → XEe r Q xx c S (E ρ S) o
def SXe (c : Cv) (S : Store) (res : Res Out) : XO X → Prop
  | .nx σ' x' => ∃ ρ' S', res = .ok (.nx ρ') S' ∧ Kv c.L Q.ix S S' ∧ Ix r b Q fx c ρ' S' σ' x'
  | .ct σ' x' => ∃ ρ' S', res = .ok (.ct ρ') S' ∧ Kv c.L Q.ix S S' ∧ Ix r b Q fx c ρ' S' σ' x'
  | .bk σ' x' => ∃ ρ' S', res = .ok (.bk ρ') S' ∧ Kv c.L Q.ix S S' ∧ Ix r b Q fx c ρ' S' σ' x'
  | .ret u x' => ∃ d S', res = .ok (.ret d) S' ∧ Bx Q c S S' x' ∧ rep r (vis c.H S') u d
  | .ex w x' => ∃ d S', res = .exc (xx.xc d) S' ∧ Bx Q c S S' x' ∧ rep r (vis c.H S') w d
def SX (B : SF) (V : VEnv → X → Option (XO X)) : Prop := ∀ c ρ S σ x o, Ix r b Q fx c ρ S σ x → V σ x = some o → SXe r b Q fx xx c S (B ρ S) o
/-- a def that hands the state on -/
def PuX (C : CF) (mk : List D → List D) (V : List U → X → Option (XR X)) : Prop := ∀ (L h : List Nat) (S : Store) (us : List U) (ds : List D) (x : X) (o : XR X), (b = true → L = []) → Nl L S → (∀ m ∈ h, m < S.length) → (∀ i ∈ Q.ix, i ∈ h) → Q.rel (vis h S) S x → reps r (vis h S) us ds → V us x = some o → XEe r Q xx ⟨L, h, []⟩ S (C (mk ds) S) o
end
abbrev XV (X : Type) := VEnv → X → Option U
def xC {X : Type} (V : VF) : XV X := fun σ _ => V σ
def xOp {X : Type} (g : U → U → Option U) (a b : XV X) : XV X := fun σ x => (a σ x).bind fun y => (b σ x).bind fun z => g y z
def xOk {X : Type} (V : XV X) : VEnv → X → Option (XR X) := fun σ x => (V σ x).map fun u => .ok u x
def xTc {X : Type} (V : VT) : VEnv → X → Option Bool := fun σ _ => V σ
def xTo {X : Type} (V : XV X) : VEnv → X → Option Bool := fun σ x => (V σ x).bind vAsB
def xTor {X : Type} (t u : VEnv → X → Option Bool) : VEnv → X → Option Bool := fun σ x => (t σ x).bind fun k => if k = true then some true else u σ x
def xEif {X : Type} (t : VT) (a c : VEnv → X → Option (XR X)) : VEnv → X → Option (XR X) := fun σ x => (t σ).bind fun k => if k = true then a σ x else c σ x
def xCall {X : Type} (V : List U → X → Option (XR X)) (l : VA) : VEnv → X → Option (XR X) := fun σ x => (l σ).bind fun us => V us x
abbrev XSt (X : Type) := VEnv → X → Option (XO X)
def xNx {X : Type} : XSt X := fun σ x => some (.nx σ x)
def xCt {X : Type} : XSt X := fun σ x => some (.ct σ x)
def xNever {X : Type} : XSt X := fun _ _ => none
def xSeq {X : Type} (a c : XSt X) : XSt X := fun σ x => (a σ x).bind fun o => match o with
  | .nx σ1 x1 => c σ1 x1
  | o => some o
def xIf {X : Type} (t : VEnv → X → Option Bool) (a c : XSt X) : XSt X := fun σ x => (t σ x).bind fun k => if k = true then a σ x else c σ x
def xSet {X : Type} (i : Nat) (V : VEnv → X → Option (XR X)) : XSt X := fun σ x => (V σ x).bind fun o => match o with
  | .ok u x1 => some (.nx (σ.set i (some u)) x1)
  | .ex w x1 => some (.ex w x1)
def xAsg {X : Type} (t : Tg) (V : VEnv → X → Option (XR X)) : XSt X := fun σ x => (V σ x).bind fun o => match o with
  | .ok u x1 => (tgU t u σ).map fun σ1 => .nx σ1 x1
  | .ex w x1 => some (.ex w x1)
def xExpr {X : Type} (V : VEnv → X → Option (XR X)) : XSt X := fun σ x => (V σ x).bind fun o => match o with
  | .ok _ x1 => some (.nx σ x1)
  | .ex w x1 => some (.ex w x1)
def xRet {X : Type} (V : VEnv → X → Option (XR X)) : XSt X := fun σ x => (V σ x).bind fun o => match o with
  | .ok u x1 => some (.ret u x1)
  | .ex w x1 => some (.ex w x1)
def xRaise {X : Type} (V : XV X) : XSt X := fun σ x => (V σ x).map fun u => .ex u x
def xforF {X : Type} (t : Tg) (body : XSt X) : List U → VEnv → X → Option (XO X)
  | [], σ, x => some (.nx σ x)
  | w :: ws, σ, x => (tgU t w σ).bind fun σ1 => (body σ1 x).bind fun o => match o with
    | .nx σ2 x2 => xforF t body ws σ2 x2
    | .ct σ2 x2 => xforF t body ws σ2 x2
    | .bk σ2 x2 => some (.nx σ2 x2)
    | .ret u x2 => some (.ret u x2)
    | .ex u x2 => some (.ex u x2)
def xFor {X : Type} (it : VA) (t : Tg) (body : XSt X) : XSt X := fun σ x => (it σ).bind fun ws => xforF t body ws σ x
def xBody {X : Type} (σ0 : List U → VEnv) (B : XSt X) (us : List U) (x : X) : Option (XR X) := (B (σ0 us) x).bind fun o => match o with
  | .ret u x1 => some (.ok u x1)
  | .nx _ x1 => some (.ok .non x1)
  | .ex w x1 => some (.ex w x1)
  | _ => none
section
variable {s : Sy} {r : Txt → Txt} {b : Bool} {X : Type} {Q : Rsc X} {fx : List (Nat × Nat)} {xx : Xx}
theorem Iv.kx {c : Cv} {ρ : Env} {S S' : Store} {σ : VEnv} (I : Iv r b [] c ρ S σ) {ix : List Nat} (k : Kv c.L ix S S') (h : ∀ i ∈ ix, i ∈ c.h) : Iv r b [] c ρ S' σ := by
  have le : Le (vis c.H S) (vis c.H S') := fun i o e => by
    unfold vis at e ⊢
    split at e
    · cases e
    · rename_i q
      rw [if_neg q]
      have hi : i < S.length := by
        cases z : S[i]? with
        | none => rw [z] at e; cases e
        | some y => exact (List.getElem?_eq_some_iff.mp z).1
      rw [k.get i hi fun z => q (List.mem_append_left _ (h i z))]
      exact e
  have em : c.M = [] := by
    cases z : c.M with
    | nil => rfl
    | cons p l => have := (I.ow p.1).mp (by rw [z]; simp); cases this
  refine ⟨I.lk, I.ow, k.nl I.nl, fun m hm => Nat.lt_of_lt_of_le (I.hb m hm) k.len, I.nd, I.dj, I.len, ?_, ?_⟩
  · intro i u e n
    obtain ⟨d, e1, e2⟩ := I.pl i u e n
    exact ⟨d, e1, e2.mono le⟩
  · intro i m hm
    rw [em] at hm
    cases hm
theorem Kv.lex {c : Cv} {S S' : Store} {ix : List Nat} (k : Kv c.L ix S S') (h : ∀ i ∈ ix, i ∈ c.h) : Le (vis c.H S) (vis c.H S') := fun i o e => by
  unfold vis at e ⊢
  split at e
  · cases e
  · rename_i q
    rw [if_neg q]
    have hi : i < S.length := by
      cases z : S[i]? with
      | none => rw [z] at e; cases e
      | some y => exact (List.getElem?_eq_some_iff.mp z).1
    rw [k.get i hi fun z => q (List.mem_append_left _ (h i z))]
    exact e
theorem Kv.tr {L ix : List Nat} {S S1 S2 : Store} (a : Kv L ix S S1) (c : Kv L ix S1 S2) : Kv L ix S S2 := a.trans (fun m h => .inl h) c
theorem Ix.grow {c : Cv} {ρ : Env} {S S' : Store} {σ : VEnv} {x : X} (I : Ix r b Q fx c ρ S σ x) (g : Gr c.L S S') : Ix r b Q fx c ρ S' σ x := ⟨I.iv.grow g, I.hid, I.fx, Q.grow I.re g.pre g.vis⟩
theorem Ix.bx {c : Cv} {ρ : Env} {S S' : Store} {σ : VEnv} {x x' : X} (I : Ix r b Q fx c ρ S σ x) (g : Bx Q c S S' x') : Ix r b Q fx c ρ S' σ x' := ⟨I.iv.kx g.kv I.hid, I.hid, I.fx, g.re⟩
theorem Ix.gb {c : Cv} {ρ : Env} {S S' : Store} {σ : VEnv} {x : X} (I : Ix r b Q fx c ρ S σ x) (g : Gr c.L S S') : Bx Q c S S' x := ⟨g.kv, (I.grow g).re⟩
theorem Ix.set {c : Cv} {ρ : Env} {S : Store} {σ : VEnv} {x : X} (I : Ix r b Q fx c ρ S σ x) {i : Nat} (hi : i ∉ fx.map (·.1)) {u : U} {d : D} (h : rep r (vis c.H S) u d) : Ix r b Q fx c (ρ.set i (some d)) S (σ.set i (some u)) x :=
  ⟨I.iv.set (by simp) h, I.hid, fun p hp => by rw [List.getElem?_set_ne fun (z : i = p.1) => hi (z ▸ List.mem_map.mpr ⟨p, hp, rfl⟩)]; exact I.fx p hp, I.re⟩
theorem setAll_ne : ∀ (is : List Nat) (ds : List D) (ρ : Env) (j : Nat), j ∉ is → (setAll is ds ρ)[j]? = ρ[j]?
  | [], ds, ρ, j, _ => by simp [setAll]
  | i :: is, [], ρ, j, _ => by simp [setAll]
  | i :: is, d :: ds, ρ, j, h => by
    simp only [List.mem_cons, not_or] at h
    rw [setAll, setAll_ne is ds _ j h.2, List.getElem?_set_ne (Ne.symm h.1)]
theorem Ix.tg {c : Cv} {ρ : Env} {S : Store} {σ σ1 : VEnv} {x : X} (I : Ix r b Q fx c ρ S σ x) {t : Tg} (hi : ∀ i ∈ t.slots, i ∉ fx.map (·.1)) {u : U} {d : D} (h : rep r (vis c.H S) u d) (e : tgU t u σ = some σ1) : ∃ ρ1, tgD t d ρ = some ρ1 ∧ Ix r b Q fx c ρ1 S σ1 x := by
  obtain ⟨ρ1, g1, g2⟩ := tg_ok (t := t) (by simp) I.iv h e
  refine ⟨ρ1, g1, g2, I.hid, fun p hp => ?_, I.re⟩
  have key : ρ1[p.1]? = ρ[p.1]? := by
    unfold tgD at g1
    split at g1
    · cases g1
      rename_i i
      exact List.getElem?_set_ne fun (z : i = p.1) => hi i (by simp [Tg.slots]) (z ▸ List.mem_map.mpr ⟨p, hp, rfl⟩)
    · split at g1
      · cases g1
        exact setAll_ne _ _ _ _ fun z => hi p.1 (by simpa [Tg.slots] using z) (List.mem_map.mpr ⟨p, hp, rfl⟩)
      · cases g1
    · cases g1
  rw [key]
  exact I.fx p hp
theorem xs_c {E : EF} {V : VF} (h : SP r b [] E V) : XS r b Q fx E (xC V) := fun c ρ S σ x u I e => h c ρ S σ u I.iv e
theorem XS.l {E : EF} {V : XV X} (h : XS r b Q fx E V) : XL r b Q fx E V := fun c ρ S σ x u I e => by
  obtain ⟨d, S', e1, e2, e3⟩ := h c ρ S σ x u I e
  exact ⟨d, S', e1, e2, e3.one⟩
theorem xl_c {E : EF} {V : VF} (h : SL r b [] E V) : XL r b Q fx E (xC V) := fun c ρ S σ x u I e => h c ρ S σ u I.iv e
theorem xs_op {f : F2} {g : U → U → Option U} {ea ec : EF} {va vc : XV X} (hf : OpV r b f g) (ha : XL r b Q fx ea va) (hc : XL r b Q fx ec vc) : XS r b Q fx (eOp f ea ec) (xOp g va vc) := fun c ρ S σ x u I e => by
  obtain ⟨y, e1, e⟩ := bnd e
  obtain ⟨z, e2, e⟩ := bnd e
  obtain ⟨d1, S1, a1, a2, a3⟩ := ha c ρ S σ x y I e1
  have I1 := I.grow a2
  obtain ⟨d2, S2, c1, c2, c3⟩ := hc c ρ S1 σ x z I1 e2
  have I2 := I1.grow c2
  obtain ⟨d, S3, f1, f2, f3⟩ := hf c.L c.H S2 y z u d1 d2 I2.iv.lk I2.iv.nl I2.iv.hb (a3.pre c2.pre) c3 e
  exact ⟨d, S3, by simp [eOp, a1, c1, f1, Res.of], (a2.trans c2).trans f2, f3⟩
theorem xt_c {T : TF} {V : VT} (h : STt r b [] T V) : XT r b Q fx T (xTc V) := fun c ρ S σ x k I e => h c ρ S σ k I.iv e
theorem xt_of {E : EF} {V : XV X} (h : XL r b Q fx E V) : XT r b Q fx (tOf E) (xTo V) := fun c ρ S σ x k I e => by
  obtain ⟨y, e1, e⟩ := bnd e
  obtain ⟨d, S1, a1, a2, a3⟩ := h c ρ S σ x y I e1
  cases y <;> simp [vAsB] at e
  subst e
  obtain rfl := r1_bl a3
  exact ⟨S1, by simp [tOf, a1, asB], a2⟩
theorem xt_or {t u : TF} {vt vu : VEnv → X → Option Bool} (ht : XT r b Q fx t vt) (hu : XT r b Q fx u vu) : XT r b Q fx (tOrF t u) (xTor vt vu) := fun c ρ S σ x k I e => by
  obtain ⟨y, e1, e⟩ := bnd e
  obtain ⟨S1, a1, a2⟩ := ht c ρ S σ x y I e1
  cases y
  · simp at e
    obtain ⟨S2, c1, c2⟩ := hu c ρ S1 σ x k (I.grow a2) e
    exact ⟨S2, by simp [tOrF, a1, c1], a2.trans c2⟩
  · simp at e; subst e; exact ⟨S1, by simp [tOrF, a1], a2⟩
theorem xe_s {E : EF} {V : XV X} (h : XS r b Q fx E V) : XE r b Q fx xx E (xOk V) := fun c ρ S σ x o I e => by
  obtain ⟨u, e1, rfl⟩ := Option.map_eq_some_iff.mp e
  obtain ⟨d, S', a1, a2, a3⟩ := h c ρ S σ x u I e1
  exact ⟨d, S', a1, I.gb a2, a3⟩
theorem XEe.up {c : Cv} {S S1 : Store} {res : Res D} {o : XR X} (k : Kv c.L Q.ix S S1) (h : XEe r Q xx c S1 res o) : XEe r Q xx c S res o := by
  cases o with
  | ok u x' => obtain ⟨d, S', e1, e2, e3⟩ := h; exact ⟨d, S', e1, ⟨k.tr e2.kv, e2.re⟩, e3⟩
  | ex u x' => obtain ⟨d, S', e1, e2, e3⟩ := h; exact ⟨d, S', e1, ⟨k.tr e2.kv, e2.re⟩, e3⟩
theorem xe_if {t : TF} {ea ec : EF} {vt : VT} {va vc : VEnv → X → Option (XR X)} (ht : STt r b [] t vt) (ha : XE r b Q fx xx ea va) (hc : XE r b Q fx xx ec vc) : XE r b Q fx xx (eIf t ea ec) (xEif vt va vc) := fun c ρ S σ x o I e => by
  obtain ⟨k, e1, e⟩ := bnd e
  obtain ⟨S1, a1, a2⟩ := ht c ρ S σ k I.iv e1
  cases k
  · rw [show eIf t ea ec ρ S = ec ρ S1 by simp [eIf, a1]]
    exact (hc c ρ S1 σ x o (I.grow a2) (by simpa using e)).up a2.kv
  · rw [show eIf t ea ec ρ S = ea ρ S1 by simp [eIf, a1]]
    exact (ha c ρ S1 σ x o (I.grow a2) (by simpa using e)).up a2.kv
theorem em_nil {c : Cv} {ρ : Env} {S : Store} {σ : VEnv} (I : Iv r b [] c ρ S σ) : c = ⟨c.L, c.h, []⟩ := by
  have em : c.M = [] := by
    cases z : c.M with
    | nil => rfl
    | cons p l => have := (I.ow p.1).mp (by rw [z]; simp); cases this
  cases c
  simp at em
  rw [em]
theorem pux_at {C : CF} {mk : List D → List D} {V : List U → X → Option (XR X)} (h : PuX r b Q xx C mk V) {c : Cv} {ρ : Env} {S : Store} {σ : VEnv} {x : X} (I : Ix r b Q fx c ρ S σ x) {us : List U} {ds : List D} {o : XR X} (hs : reps r (vis c.H S) us ds) (e : V us x = some o) : XEe r Q xx c S (C (mk ds) S) o := by
  have ec := em_nil I.iv
  have eH : c.H = c.h := by rw [ec]; simp [Cv.H, Cv.ms]
  have := h c.L c.h S us ds x o I.iv.lk I.iv.nl (fun m hm => I.iv.hb m (List.mem_append_left _ hm)) I.hid (eH ▸ I.re) (eH ▸ hs) e
  rw [← ec] at this
  exact this
/-- o.m(..), o the state's object -/
theorem xe_meth {A : Addr} {m : Str} {C : CF} {i n : Nat} {a : AF} {vl : VA} {V : List U → X → Option (XR X)} (hi : (i, n) ∈ fx) (hm : ∀ v S x, Q.rel v S x → insOf A m (.ref n) S = true) (h : PuX r b Q xx C (fun ds => .ref n :: ds) V) (ha : SA r b [] a vl) : XE r b Q fx xx (eMeth A m C (eVar i) a) (xCall V vl) := fun c ρ S σ x o I e => by
  obtain ⟨us, e1, e⟩ := bnd e
  obtain ⟨ds, S1, a1, a2, a3⟩ := ha c ρ S σ us I.iv e1
  have I1 := I.grow a2
  rw [show eMeth A m C (eVar i) a ρ S = C (.ref n :: ds) S1 by simp [eMeth, ev_of (I.fx _ hi), hm _ _ _ I.re, a1]]
  exact (pux_at h I1 a3 e).up a2.kv
/-! statements -/
theorem SXe.up {c : Cv} {S S1 : Store} {res : Res Out} {o : XO X} (k : Kv c.L Q.ix S S1) (h : SXe r b Q fx xx c S1 res o) : SXe r b Q fx xx c S res o := by
  cases o with
  | nx σ x' => obtain ⟨ρ', S', e1, e2, e3⟩ := h; exact ⟨ρ', S', e1, k.tr e2, e3⟩
  | ct σ x' => obtain ⟨ρ', S', e1, e2, e3⟩ := h; exact ⟨ρ', S', e1, k.tr e2, e3⟩
  | bk σ x' => obtain ⟨ρ', S', e1, e2, e3⟩ := h; exact ⟨ρ', S', e1, k.tr e2, e3⟩
  | ret u x' => obtain ⟨d, S', e1, e2, e3⟩ := h; exact ⟨d, S', e1, ⟨k.tr e2.kv, e2.re⟩, e3⟩
  | ex u x' => obtain ⟨d, S', e1, e2, e3⟩ := h; exact ⟨d, S', e1, ⟨k.tr e2.kv, e2.re⟩, e3⟩
theorem sx_nx : SX r b Q fx xx sNx xNx := fun c ρ S σ x o I e => by cases e; exact ⟨ρ, S, rfl, .refl, I⟩
theorem sx_ct : SX r b Q fx xx sCt xCt := fun c ρ S σ x o I e => by cases e; exact ⟨ρ, S, rfl, .refl, I⟩
theorem sx_never {B : SF} : SX r b Q fx xx B xNever := fun c ρ S σ x o I e => by cases e
theorem sx_seq {B1 B2 : SF} {V1 V2 : XSt X} (h1 : SX r b Q fx xx B1 V1) (h2 : SX r b Q fx xx B2 V2) : SX r b Q fx xx (sSeq B1 B2) (xSeq V1 V2) := fun c ρ S σ x o I e => by
  obtain ⟨o1, e1, e⟩ := bnd e
  have g := h1 c ρ S σ x o1 I e1
  cases o1 with
  | nx σ1 x1 =>
    obtain ⟨ρ1, S1, g1, g2, g3⟩ := g
    rw [show sSeq B1 B2 ρ S = B2 ρ1 S1 by simp [sSeq, g1]]
    exact (h2 c ρ1 S1 σ1 x1 o g3 e).up g2
  | ct σ1 x1 => cases e; obtain ⟨ρ1, S1, g1, g2⟩ := g; exact ⟨ρ1, S1, by simp [sSeq, g1], g2⟩
  | bk σ1 x1 => cases e; obtain ⟨ρ1, S1, g1, g2⟩ := g; exact ⟨ρ1, S1, by simp [sSeq, g1], g2⟩
  | ret u x1 => cases e; obtain ⟨d, S1, g1, g2⟩ := g; exact ⟨d, S1, by simp [sSeq, g1], g2⟩
  | ex u x1 => cases e; obtain ⟨d, S1, g1, g2⟩ := g; exact ⟨d, S1, by simp [sSeq, g1], g2⟩
theorem sx_if {t : TF} {vt : VEnv → X → Option Bool} {B1 B2 : SF} {V1 V2 : XSt X} (ht : XT r b Q fx t vt) (h1 : SX r b Q fx xx B1 V1) (h2 : SX r b Q fx xx B2 V2) : SX r b Q fx xx (sIf t B1 B2) (xIf vt V1 V2) := fun c ρ S σ x o I e => by
  obtain ⟨k, e1, e⟩ := bnd e
  obtain ⟨S1, a1, a2⟩ := ht c ρ S σ x k I e1
  cases k
  · rw [show sIf t B1 B2 ρ S = B2 ρ S1 by simp [sIf, a1]]
    exact (h2 c ρ S1 σ x o (I.grow a2) (by simpa using e)).up a2.kv
  · rw [show sIf t B1 B2 ρ S = B1 ρ S1 by simp [sIf, a1]]
    exact (h1 c ρ S1 σ x o (I.grow a2) (by simpa using e)).up a2.kv
theorem sx_set (i : Nat) (hi : i ∉ fx.map (·.1)) {E : EF} {V : VEnv → X → Option (XR X)} (h : XE r b Q fx xx E V) : SX r b Q fx xx (sSet i E) (xSet i V) := fun c ρ S σ x o I e => by
  obtain ⟨o1, e1, e⟩ := bnd e
  have g := h c ρ S σ x o1 I e1
  cases o1 with
  | ok u x1 =>
    cases e
    obtain ⟨d, S1, a1, a2, a3⟩ := g
    exact ⟨_, S1, by simp [sSet, a1], a2.kv, (I.bx a2).set hi a3⟩
  | ex w x1 =>
    cases e
    obtain ⟨d, S1, a1, a2, a3⟩ := g
    exact ⟨d, S1, by simp [sSet, a1], a2, a3⟩
theorem sx_asg {t : Tg} (hi : ∀ i ∈ t.slots, i ∉ fx.map (·.1)) {E : EF} {V : VEnv → X → Option (XR X)} (h : XE r b Q fx xx E V) : SX r b Q fx xx (sAsg t E) (xAsg t V) := fun c ρ S σ x o I e => by
  obtain ⟨o1, e1, e⟩ := bnd e
  have g := h c ρ S σ x o1 I e1
  cases o1 with
  | ok u x1 =>
    obtain ⟨σ1, e2, rfl⟩ := Option.map_eq_some_iff.mp e
    obtain ⟨d, S1, a1, a2, a3⟩ := g
    obtain ⟨ρ1, g1, g2⟩ := (I.bx a2).tg hi a3 e2
    exact ⟨_, S1, by simp [sAsg, a1, g1], a2.kv, g2⟩
  | ex w x1 =>
    cases e
    obtain ⟨d, S1, a1, a2, a3⟩ := g
    exact ⟨d, S1, by simp [sAsg, a1], a2, a3⟩
theorem sx_expr {E : EF} {V : VEnv → X → Option (XR X)} (h : XE r b Q fx xx E V) : SX r b Q fx xx (sExpr E) (xExpr V) := fun c ρ S σ x o I e => by
  obtain ⟨o1, e1, e⟩ := bnd e
  have g := h c ρ S σ x o1 I e1
  cases o1 with
  | ok u x1 =>
    cases e
    obtain ⟨d, S1, a1, a2, a3⟩ := g
    exact ⟨ρ, S1, by simp [sExpr, a1], a2.kv, I.bx a2⟩
  | ex w x1 =>
    cases e
    obtain ⟨d, S1, a1, a2, a3⟩ := g
    exact ⟨d, S1, by simp [sExpr, a1], a2, a3⟩
theorem sx_ret {E : EF} {V : VEnv → X → Option (XR X)} (h : XE r b Q fx xx E V) : SX r b Q fx xx (sRet E) (xRet V) := fun c ρ S σ x o I e => by
  obtain ⟨o1, e1, e⟩ := bnd e
  have g := h c ρ S σ x o1 I e1
  cases o1 with
  | ok u x1 =>
    cases e
    obtain ⟨d, S1, a1, a2, a3⟩ := g
    exact ⟨d, S1, by simp [sRet, a1], a2, a3⟩
  | ex w x1 =>
    cases e
    obtain ⟨d, S1, a1, a2, a3⟩ := g
    exact ⟨d, S1, by simp [sRet, a1], a2, a3⟩
theorem sx_raise {E : EF} {V : XV X} (h : XS r b Q fx E V) : SX r b Q fx xx (sRaise xx.cls xx.fld E) (xRaise V) := fun c ρ S σ x o I e => by
  obtain ⟨u, e1, rfl⟩ := Option.map_eq_some_iff.mp e
  obtain ⟨d, S1, a1, a2, a3⟩ := h c ρ S σ x u I e1
  exact ⟨d, S1, by simp [sRaise, a1, Xx.xc], I.gb a2, a3⟩
theorem xfor_run {t : Tg} {B : SF} {V : XSt X} {nxt : Nat → Store → Option (Option D)} {c : Cv} {S1 : Store} {ds : List D} (ht : ∀ i ∈ t.slots, i ∉ fx.map (·.1)) (hB : SX r b Q fx xx B V) (hid : ∀ i ∈ Q.ix, i ∈ c.h)
    (hx : ∀ S'' i, Le (vis c.H S1) (vis c.H S'') → i ≤ ds.length → nxt i S'' = nxL ds i) :
    ∀ (ws : List U) (i m : Nat) (ρ : Env) (σ : VEnv) (S : Store) (x : X) (o : XO X), reps r (vis c.H S1) ws (ds.drop i) → i ≤ ds.length → ds.length < m + i → Ix r b Q fx c ρ S σ x → Kv c.L Q.ix S1 S → xforF t V ws σ x = some o →
      SXe r b Q fx xx c S1 (forF nxt t B m i ρ S) o := by
  intro ws
  induction ws with
  | nil =>
    intro i m ρ σ S x o hw hi hm I k e
    cases e
    have : i = ds.length := by
      have := hw.length
      simp at this
      omega
    subst this
    cases m with
    | zero => omega
    | succ m =>
      refine ⟨ρ, S, ?_, k, I⟩
      unfold forF
      rw [hx S _ (k.lex hid) (Nat.le_refl _)]
      simp [nxL]
  | cons w ws ih =>
    intro i m ρ σ S x o hw hi hm I k e
    obtain ⟨d, y, hd, k1, k2⟩ := hw.cons_iff
    have hi' : i < ds.length := by
      have := congrArg List.length hd
      simp at this
      omega
    have hd' : ds[i]? = some d ∧ y = ds.drop (i + 1) := by
      have h3 := List.drop_eq_getElem_cons hi'
      rw [hd] at h3
      injection h3 with h4 h5
      exact ⟨by rw [List.getElem?_eq_getElem hi', h4], h5⟩
    cases m with
    | zero => omega
    | succ m =>
      obtain ⟨σ1, g1, e⟩ := bnd e
      obtain ⟨o1, g2, e⟩ := bnd e
      obtain ⟨ρ1, t1, I1⟩ := I.tg ht (k1.mono (k.lex hid)) g1
      have hnx : nxt i S = some (some d) := by
        rw [hx S i (k.lex hid) (Nat.le_of_lt hi')]
        unfold nxL
        rw [if_neg (by omega), hd'.1]; rfl
      have gb := hB c ρ1 S σ1 x o1 I1 g2
      unfold forF
      simp only [hnx, t1]
      cases o1 with
      | nx σ2 x2 =>
        obtain ⟨ρ2, S2, f1, f2, f3⟩ := gb
        simp only [f1, Res.bind_ok]
        exact ih (i + 1) m ρ2 σ2 S2 x2 o (hd'.2 ▸ k2) hi' (by omega) f3 (k.tr f2) e
      | ct σ2 x2 =>
        obtain ⟨ρ2, S2, f1, f2, f3⟩ := gb
        simp only [f1, Res.bind_ok]
        exact ih (i + 1) m ρ2 σ2 S2 x2 o (hd'.2 ▸ k2) hi' (by omega) f3 (k.tr f2) e
      | bk σ2 x2 =>
        cases e
        obtain ⟨ρ2, S2, f1, f2, f3⟩ := gb
        simp only [f1, Res.bind_ok]
        exact ⟨ρ2, S2, rfl, k.tr f2, f3⟩
      | ret u x2 =>
        cases e
        obtain ⟨d2, S2, f1, f2, f3⟩ := gb
        simp only [f1, Res.bind_ok]
        exact ⟨d2, S2, rfl, ⟨k.tr f2.kv, f2.re⟩, f3⟩
      | ex u x2 =>
        cases e
        obtain ⟨d2, S2, f1, f2, f3⟩ := gb
        simp only [f1, Res.bind_exc]
        exact ⟨d2, S2, rfl, ⟨k.tr f2.kv, f2.re⟩, f3⟩
theorem sx_for {it : IF} {t : Tg} {B : SF} {vi : VA} {V : XSt X} (hi : SI r b [] it vi) (ht : ∀ i ∈ t.slots, i ∉ fx.map (·.1)) (hB : SX r b Q fx xx B V) : SX r b Q fx xx (sFor it t B) (xFor vi t V) := fun c ρ S σ x o I e => by
  obtain ⟨us, e1, e⟩ := bnd e
  obtain ⟨src, S1, a1, a2, ds, a3, a4, a5⟩ := hi c ρ S σ us I.iv e1
  have := xfor_run ht hB I.hid a5 us 0 src.fuel ρ σ S1 x o (by simpa using a3) (Nat.zero_le _) (by omega) (I.grow a2) .refl e
  rw [show sFor it t B ρ S = forF src.nxt t B src.fuel 0 ρ S1 by simp [sFor, a1]]
  exact this.up a2.kv
/-- the beginning of a method: the state's object is in slot 0 -/
theorem ix_start {L h : List Nat} {S : Store} {us : List U} {ds : List D} {x : X} {rn : Nat} (k : Nat) (lk : b = true → L = []) (nl : Nl L S) (hb : ∀ m ∈ h, m < S.length) (hid : ∀ i ∈ Q.ix, i ∈ h) (re : Q.rel (vis h S) S x) (hs : reps r (vis h S) us ds) :
    Ix r b Q [(0, rn)] ⟨L, h, []⟩ (startE k (.ref rn :: ds)) S (none :: us.map some ++ List.replicate (k - (us.length + 1)) none) x := by
  have ln := hs.length
  have eH : Cv.H ⟨L, h, []⟩ = h := by simp [Cv.H, Cv.ms]
  refine ⟨⟨lk, fun i => by simp, nl, fun m hm => hb m (eH ▸ hm), by simp [Cv.ms], fun m hm => by simp [Cv.ms] at hm, by simp [startE, ln], ?_, fun i m hm => by simp at hm⟩, hid, fun p hp => by simp at hp; subst hp; simp [startE], by rw [eH]; exact re⟩
  intro i u e _
  cases i with
  | zero => simp at e
  | succ i =>
    simp only [List.cons_append, List.getElem?_cons_succ] at e
    have hi : i < us.length := by
      by_cases q : i < us.length
      · exact q
      · rw [List.getElem?_append_right (by simp; omega)] at e
        have := List.mem_of_getElem? e
        simp at this
    rw [List.getElem?_append_left (by simpa using hi)] at e
    simp at e
    obtain ⟨d, e1, e2⟩ := hs.get e
    refine ⟨d, ?_, by rw [eH]; exact e2⟩
    simp only [startE, List.map_cons, List.cons_append, List.getElem?_cons_succ]
    rw [List.getElem?_append_left (by simp; omega)]
    simp [e1]
theorem pux_body {k rn : Nat} {B : SF} {V : XSt X} (h : SX r b Q [(0, rn)] xx B V) : PuX r b Q xx (bodyF k B) (fun ds => .ref rn :: ds) (xBody (fun us => none :: us.map some ++ List.replicate (k - (us.length + 1)) none) V) := fun L hh S us ds x o lk nl hb hid re hs e => by
  obtain ⟨o1, e1, e⟩ := bnd e
  have g := h ⟨L, hh, []⟩ _ S _ x o1 (ix_start k lk nl hb hid re hs) e1
  cases o1 with
  | nx σ1 x1 =>
    cases e
    obtain ⟨ρ', S', f1, f2, f3⟩ := g
    exact ⟨.non, S', by simp [bodyF, f1], ⟨f2, f3.re⟩, rep_non.mpr rfl⟩
  | ret u x1 => cases e; obtain ⟨d, S', f1, f2, f3⟩ := g; exact ⟨d, S', by simp [bodyF, f1], f2, f3⟩
  | ex u x1 => cases e; obtain ⟨d, S', f1, f2, f3⟩ := g; exact ⟨d, S', by simp [bodyF, f1], f2, f3⟩
  | ct σ1 x1 => cases e
  | bk σ1 x1 => cases e
theorem pux_zero {C : CF} {mk : List D → List D} : PuX r b Q xx C mk (fun _ _ => none) := fun L h S us ds x o lk nl hb hid re hs e => by cases e
end
end Al

set_option Elab.async false
set_option linter.all false
set_option maxRecDepth 100000
set_option maxHeartbeats 1000000
/-! Vs: an object with a dict and a list of its own (the runner). -/
namespace Al
open PySem
structure Rs where
  ks : List Txt
  us : List U
  sp : List U
/-- the runner at rn, its values at n, its spots at m -/
def rsc (r : Txt → Txt) (A : Addr) (rn n m : Nat) : Rsc Rs where
  ix := [n, m]
  rel := fun v S x => S[rn]? = some (.ins A [("values_now", .ref n), ("spots_seen", .ref m)]) ∧ (∃ kvs, S[n]? = some (.dct kvs) ∧ repD r v (x.ks, x.us) kvs) ∧ ∃ ls, S[m]? = some (.lst ls) ∧ reps r v x.sp ls
  grow := fun ⟨h1, ⟨kvs, h2, h3⟩, ls, h4, h5⟩ g l => ⟨pre_get g h1, ⟨kvs, pre_get g h2, h3.mono l⟩, ls, pre_get g h4, h5.mono l⟩
def xGet2 {X : Type} (o k z : XV X) : XV X := fun σ x => (o σ x).bind fun y => (k σ x).bind fun w => (z σ x).bind fun q => getV y w q
def xVals : XV Rs := fun _ x => some (.dct x.ks x.us)
def xApp (V : XV Rs) : XSt Rs := fun σ x => (V σ x).bind fun u => if x.sp.length ≤ 1000000 then some (.nx σ ⟨x.ks, x.us, x.sp ++ [u]⟩) else none
def xPut (V W : XV Rs) : XSt Rs := fun σ x => (V σ x).bind fun u => (W σ x).bind fun k => match k with
  | .str z => if x.ks.length ≤ 1000000 then some (.nx σ ⟨(dPutV (x.ks, x.us) z u).1, (dPutV (x.ks, x.us) z u).2, x.sp⟩) else none
  | _ => none
def dDropV : List Txt → List U → Txt → List Txt × List U
  | k :: ks, u :: us, x => if k = x then dDropV ks us x else let p := dDropV ks us x; (k :: p.1, u :: p.2)
  | _, _, _ => ([], [])
def xPop (W : XV Rs) : XSt Rs := fun σ x => (W σ x).bind fun k => match k with
  | .str z => some (.nx σ ⟨(dDropV x.ks x.us z).1, (dDropV x.ks x.us z).2, x.sp⟩)
  | _ => none
section
variable {s : Sy} {r : Txt → Txt} {b : Bool} {A : Addr} {rn n m : Nat} {fx : List (Nat × Nat)} {xx : Xx} {own : List Nat}
theorem dDrop_ok (R : Rn s r) {v : View} {z : Txt} : ∀ (ks : List Txt) (us : List U) (kvs : List (Txt × D)), repD r v (ks, us) kvs → repD r v (dDropV ks us z) (dDrop kvs (r z))
  | ks, us, [], h => by
    have : ks = [] := by simpa using h.1.symm
    subst this
    exact ⟨rfl, .nil⟩
  | ks, us, p :: kvs, h => by
    obtain ⟨h1, h2⟩ := h
    cases ks with
    | nil => simp at h1
    | cons a ks =>
      cases us with
      | nil => have := h2.nil_iff; simp at this
      | cons w us =>
        obtain ⟨d0, x, e0, k1, k2⟩ := h2.cons_iff
        simp at e0
        obtain ⟨rfl, rfl⟩ := e0
        simp only [List.map_cons, List.cons.injEq] at h1
        obtain ⟨i1, i2⟩ := dDrop_ok (z := z) R ks us kvs ⟨h1.2, k2⟩
        simp only [dDropV]
        by_cases q : a = z
        · subst q
          rw [if_pos rfl]
          have : dDrop (p :: kvs) (r a) = dDrop kvs (r a) := by simp [dDrop, h1.1]
          rw [this]; exact ⟨i1, i2⟩
        · rw [if_neg q]
          have ne : ¬ p.1 = r z := by rw [h1.1]; exact fun w => q (R.inj _ _ w)
          have : dDrop (p :: kvs) (r z) = p :: dDrop kvs (r z) := by simp [dDrop, ne]
          rw [this]
          exact ⟨by simp only [List.map_cons]; rw [i1, h1.1], .cons k1 i2⟩
theorem dGet_none_drop {k : Txt} : ∀ kvs : List (Txt × D), dGet kvs k = none → dDrop kvs k = kvs
  | [], _ => rfl
  | p :: kvs, h => by
    unfold dGet at h
    split at h
    · cases h
    · rename_i q
      have ih := dGet_none_drop kvs h
      simp only [dDrop, List.filter_cons] at ih ⊢
      simp [q]
      simpa using ih
theorem xl_vals (h0 : (0, rn) ∈ fx) : XL r b (rsc r A rn n m) fx (eFld A "values_now" (eVar 0)) xVals := fun c ρ S σ x u I e => by
  cases e
  obtain ⟨h1, ⟨kvs, h2, h3⟩, _⟩ := I.re
  exact ⟨.ref n, S, by simp [eFld, ev_of (I.fx _ h0), fldO, h1, fGet, Res.of], .refl, kvs, datV_of (.inl h2) (by simp), h3.1, h3.2⟩
theorem xs_get2 (R : Rn s r) {X : Type} {Q : Rsc X} {eo ek ez : EF} {vo vk vz : XV X} (ho : XL r b Q fx eo vo) (hk : XL r b Q fx ek vk) (hz : XS r b Q fx ez vz) : XS r b Q fx (eGet2 getO eo ek ez) (xGet2 vo vk vz) := fun c ρ S σ x u I e => by
  obtain ⟨y, e1, e⟩ := bnd e
  obtain ⟨w, e2, e⟩ := bnd e
  obtain ⟨q, e3, e⟩ := bnd e
  obtain ⟨d, S1, a1, a2, a3⟩ := ho c ρ S σ x y I e1
  have I1 := I.grow a2
  obtain ⟨d2, S2, c1, c2, c3⟩ := hk c ρ S1 σ x w I1 e2
  have I2 := I1.grow c2
  obtain ⟨d3, S3, f1, f2, f3⟩ := hz c ρ S2 σ x q I2 e3
  unfold getV at e
  split at e
  · cases e
    obtain rfl := r1_str c3
    obtain ⟨z, g1, g2⟩ := get_r R (a3.pre (c2.pre.trans f2.pre)) f3
    exact ⟨z, S3, by simp only [eGet2, a1, Res.bind_ok]; rw [if_pos (isDc_r a3), c1, Res.bind_ok, f1, Res.bind_ok, g1]; rfl, (a2.trans c2).trans f2, g2⟩
  · cases e
theorem nm_ne {v : View} {S : Store} {x : Rs} (h : (rsc r A rn n m).rel v S x) : n ≠ m ∧ rn ≠ n ∧ rn ≠ m := by
  obtain ⟨h1, ⟨kvs, h2, _⟩, ls, h4, _⟩ := h
  refine ⟨fun z => ?_, fun z => ?_, fun z => ?_⟩
  · rw [z, h4] at h2; cases h2
  · rw [z, h2] at h1; cases h1
  · rw [z, h4] at h1; cases h1
theorem ins_of {mt : Str} (h1 : ¬ ("values_now" : Str) = mt) (h2 : ¬ ("spots_seen" : Str) = mt) : ∀ (v : View) (S : Store) (x : Rs), (rsc r A rn n m).rel v S x → insOf A mt (.ref rn) S = true := fun v S x h => by
  obtain ⟨g, _⟩ := h
  simp [insOf, g, fGet, h1, h2]
theorem rs_set {c : Cv} {ρ : Env} {S : Store} {σ : VEnv} {x x' : Rs} (I : Ix r b (rsc r A rn n m) fx c ρ S σ x) {i : Nat} (hi : i ∈ [n, m]) {o : O} (ho : unlO o = o) (h : (rsc r A rn n m).rel (vis c.H S) (S.set i o) x') : Kv c.L (rsc r A rn n m).ix S (S.set i o) ∧ Ix r b (rsc r A rn n m) fx c ρ (S.set i o) σ x' := by
  have ih : i ∈ c.h := I.hid i hi
  have iH : i ∈ c.H := List.mem_append_left _ ih
  refine ⟨⟨by simp, fun j _ hj => List.getElem?_set_ne fun (z : i = j) => hj (z ▸ hi), fun h => h.set ho⟩, I.iv.put ih ho, I.hid, I.fx, by rw [vis_set iH]; exact h⟩
theorem fs_ne : ¬ ("values_now" : Str) = "spots_seen" := by decide
theorem sx_app (h0 : (0, rn) ∈ fx) {E : EF} {V : XV Rs} (h : XS r b (rsc r A rn n m) fx E V) : SX r b (rsc r A rn n m) fx xx (sExpr (eM "list" appendM (eFld A "spots_seen" (eVar 0)) (aCons E aNil))) (xApp V) := fun c ρ S σ x o I e => by
  obtain ⟨u, e1, e⟩ := bnd e
  split at e
  case isFalse => cases e
  rename_i hl
  cases e
  obtain ⟨g1, _, ls, g4, g5⟩ := I.re
  obtain ⟨d, S1, a1, a2, a3⟩ := h c ρ S σ x u I e1
  have I1 := I.grow a2
  obtain ⟨f1, f2, ls', f4, f5⟩ := id I1.re
  have e4 : ls' = ls := by
    have := pre_get a2.pre g4
    rw [f4] at this
    cases this; rfl
  subst e4
  have ne := nm_ne I1.re
  have ml : m < S1.length := (List.getElem?_eq_some_iff.mp f4).1
  have ln := f5.length
  obtain ⟨k, J⟩ := rs_set I1 (i := m) (x' := ⟨x.ks, x.us, x.sp ++ [u]⟩) (by simp) (o := .lst (ls' ++ [d])) rfl ⟨by rw [List.getElem?_set_ne (Ne.symm ne.2.2)]; exact f1, by obtain ⟨kvs, p1, p2⟩ := f2; exact ⟨kvs, by rw [List.getElem?_set_ne (Ne.symm ne.1)]; exact p1, p2⟩, _, List.getElem?_set_self ml, f5.append (.cons a3 .nil)⟩
  refine ⟨ρ, _, ?_, a2.kv.tr k, J⟩
  simp only [sExpr, eM, eFld, ev_of (I.fx _ h0), Res.bind_ok, fldO, g1, if_true, fGet]
  rw [if_neg fs_ne]
  simp only [Option.map_some, Res.of, Res.bind_ok]
  rw [if_pos (v_tyl g4)]
  simp only [aCons, aNil, a1, Res.bind_ok]
  rw [v_app f4 (by simp only [lim_is]; omega)]
  rfl
theorem sx_put (R : Rn s r) (h0 : (0, rn) ∈ fx) {E Ek : EF} {V W : XV Rs} (h : XS r b (rsc r A rn n m) fx E V) (hk : XS r b (rsc r A rn n m) fx Ek W) : SX r b (rsc r A rn n m) fx xx (sPut putO E (eFld A "values_now" (eVar 0)) Ek) (xPut V W) := fun c ρ S σ x o I e => by
  obtain ⟨u, e1, e⟩ := bnd e
  obtain ⟨w, e2, e⟩ := bnd e
  cases w <;> try (cases e; done)
  rename_i z
  simp only at e
  split at e
  case isFalse => cases e
  rename_i hl
  cases e
  obtain ⟨d, S1, a1, a2, a3⟩ := h c ρ S σ x u I e1
  have I1 := I.grow a2
  obtain ⟨dk, S2, b1, b2, b3⟩ := hk c ρ S1 σ x _ I1 e2
  have I2 := I1.grow b2
  obtain rfl := rep_str.mp b3
  obtain ⟨f1, ⟨kvs, f2, f3⟩, f4⟩ := id I2.re
  have q1 : S1[rn]? = _ := I1.re.1
  have ne := nm_ne I2.re
  have ml : n < S2.length := (List.getElem?_eq_some_iff.mp f2).1
  have ln : kvs.length = x.ks.length := by simpa using congrArg List.length f3.1
  obtain ⟨k, J⟩ := rs_set I2 (i := n) (x' := ⟨(dPutV (x.ks, x.us) z u).1, (dPutV (x.ks, x.us) z u).2, x.sp⟩) (by simp) (o := .dct (dPut kvs (r z) d)) rfl ⟨by rw [List.getElem?_set_ne (Ne.symm ne.2.1)]; exact f1, ⟨_, List.getElem?_set_self ml, dPut_ok R (a3.mono b2.vis) f3⟩, by obtain ⟨ls, p1, p2⟩ := f4; exact ⟨ls, by rw [List.getElem?_set_ne ne.1]; exact p1, p2⟩⟩
  refine ⟨ρ, _, ?_, (a2.trans b2).kv.tr k, J⟩
  simp only [sPut, a1, Res.bind_ok, eFld, ev_of (I.fx _ h0), fldO, q1, if_true, fGet, Option.map_some, Res.of, b1, putO, dctAt, f2, Option.bind_some]
  rw [if_pos (by simp only [lim_is]; omega)]
theorem sx_pop (R : Rn s r) (h0 : (0, rn) ∈ fx) {Ek : EF} {W : XV Rs} (hk : XS r b (rsc r A rn n m) fx Ek W) : SX r b (rsc r A rn n m) fx xx (sExpr (eGet2 popO (eFld A "values_now" (eVar 0)) Ek (eC .non))) (xPop W) := fun c ρ S σ x o I e => by
  obtain ⟨w, e2, e⟩ := bnd e
  cases w <;> try (cases e; done)
  rename_i z
  cases e
  obtain ⟨g1, ⟨kvs0, g2, _⟩, _⟩ := I.re
  obtain ⟨dk, S2, b1, b2, b3⟩ := hk c ρ S σ x _ I e2
  have I2 := I.grow b2
  obtain rfl := rep_str.mp b3
  obtain ⟨f1, ⟨kvs, f2, f3⟩, f4⟩ := id I2.re
  have ne := nm_ne I2.re
  have ml : n < S2.length := (List.getElem?_eq_some_iff.mp f2).1
  have isd : isDc (.ref n) S = true := by simp [isDc, rdAt, g2]
  have dr := dDrop_ok R (z := z) x.ks x.us kvs f3
  cases q : dGet kvs (r z) with
  | none =>
    rw [dGet_none_drop kvs q] at dr
    refine ⟨ρ, S2, ?_, b2.kv, I2.iv, I2.hid, I2.fx, f1, ⟨kvs, f2, dr⟩, f4⟩
    simp only [sExpr, eGet2, eFld, ev_of (I.fx _ h0), Res.bind_ok, fldO, g1, if_true, fGet, Option.map_some, Res.of]
    rw [if_pos isd]
    simp [b1, eC, popO, dctAt, f2, q]
  | some y =>
    obtain ⟨k, J⟩ := rs_set I2 (i := n) (x' := ⟨(dDropV x.ks x.us z).1, (dDropV x.ks x.us z).2, x.sp⟩) (by simp) (o := .dct (dDrop kvs (r z))) rfl ⟨by rw [List.getElem?_set_ne (Ne.symm ne.2.1)]; exact f1, ⟨_, List.getElem?_set_self ml, dr⟩, by obtain ⟨ls, p1, p2⟩ := f4; exact ⟨ls, by rw [List.getElem?_set_ne ne.1]; exact p1, p2⟩⟩
    refine ⟨ρ, _, ?_, b2.kv.tr k, J⟩
    simp only [sExpr, eGet2, eFld, ev_of (I.fx _ h0), Res.bind_ok, fldO, g1, if_true, fGet, Option.map_some, Res.of]
    rw [if_pos isd]
    simp [b1, eC, popO, dctAt, f2, q]
theorem vdcP_run (R : Rn s r) {P : Store → Prop} {G : Env → Prop} {t : Tg} {ti : TF} {ek ev : EF} {vti : VT} {vk vv : VF} {nxt : Nat → Store → Option (Option D)} {n : Nat} {c : Cv} {ρ : Env} {σ : VEnv} {S1 : Store} {ds : List D} (hn : n ∈ c.h) (ht : ∀ i ∈ t.slots, i ∉ own) (h1 : STt r b own ti vti) (h2 : ∀ ρ S σ u, Iv r b own c ρ S σ → G ρ → P S → vk σ = some u → ∃ d S', ek ρ S = .ok d S' ∧ Gr c.L S S' ∧ rep r (vis c.H S') u d) (h3 : ∀ ρ S σ u, Iv r b own c ρ S σ → G ρ → P S → vv σ = some u → ∃ d S', ev ρ S = .ok d S' ∧ Gr c.L S S' ∧ rep r (vis c.H S') u d) (hP1 : ∀ S S', Gr c.L S S' → P S → P S') (hP2 : ∀ S o, P S → P (S.set n o)) (hG : ∀ d ρ1, tgD t d ρ = some ρ1 → G ρ1)
    (hx : ∀ S'' i, Le (vis c.H S1) (vis c.H S'') → i ≤ ds.length → nxt i S'' = nxL ds i) (hl : ds.length ≤ 1000000) :
    ∀ (ws : List U) (i m : Nat) (S : Store) (accU : List Txt × List U) (acc : List (Txt × D)) (out : List Txt × List U), reps r (vis c.H S1) ws (ds.drop i) → i ≤ ds.length → ds.length < m + i → Iv r b own c ρ S σ → P S → Le (vis c.H S1) (vis c.H S) → S[n]? = some (.dct acc) → acc.length ≤ i → repD r (vis c.H S) accU acc → vdcF t vti vk vv σ ws accU = some out →
      ∃ S' acc', dcF nxt t ti ek ev n m i ρ S = .ok (.ref n) S' ∧ Gn c.L n S S' ∧ S'[n]? = some (.dct acc') ∧ repD r (vis c.H S') out acc' := by
  have hH : n ∈ c.H := by unfold Cv.H; exact List.mem_append_left _ hn
  intro ws
  induction ws with
  | nil =>
    intro i m S accU acc out hw hi hm I pS le e1 hal e2 e
    cases e
    have : i = ds.length := by
      have := hw.length
      simp at this
      omega
    subst this
    cases m with
    | zero => omega
    | succ m =>
      refine ⟨S, acc, ?_, .refl, e1, by simpa using e2⟩
      unfold dcF
      rw [hx S _ le (Nat.le_refl _)]
      simp [nxL]
  | cons w ws ih =>
    intro i m S accU acc out hw hi hm I pS le e1 hal e2 e
    obtain ⟨d, x, hd, k1, k2⟩ := hw.cons_iff
    have hi' : i < ds.length := by
      have := congrArg List.length hd
      simp at this
      omega
    have hd' : ds[i]? = some d ∧ x = ds.drop (i + 1) := by
      have h3 := List.drop_eq_getElem_cons hi'
      rw [hd] at h3
      injection h3 with h4 h5
      exact ⟨by rw [List.getElem?_eq_getElem hi', h4], h5⟩
    cases m with
    | zero => omega
    | succ m =>
      obtain ⟨σ1, g1, e⟩ := bnd e
      obtain ⟨k, g2, e⟩ := bnd e
      obtain ⟨ρ1, t1, I1⟩ := tg_ok ht I (k1.mono le) g1
      obtain ⟨S2, b1, b2⟩ := h1 c ρ1 S σ1 k I1 g2
      have hnx : nxt i S = some (some d) := by
        rw [hx S i le (Nat.le_of_lt hi')]
        unfold nxL
        rw [if_neg (by omega), hd'.1]; rfl
      unfold dcF
      simp only [hnx, t1, b1, Res.quiet, Res.bind_ok]
      cases k
      · simp at e
        obtain ⟨S3, acc', f1, f2, f3, f4⟩ := ih (i + 1) m S2 accU acc out (hd'.2 ▸ k2) hi' (by omega) (I.grow b2) (hP1 _ _ b2 pS) (fun j o z => b2.vis j o (le j o z)) (pre_get b2.pre e1) (by omega) (e2.mono b2.vis) e
        exact ⟨S3, acc', by simpa using f1, b2.gn.trans f2, f3, f4⟩
      · simp only [if_true] at e
        obtain ⟨y, g3, e⟩ := bnd e
        obtain ⟨z, g4, e⟩ := bnd e
        split at e
        case h_2 => cases e
        rename_i ks _e
        obtain ⟨dy, S3, q1, q2, q3⟩ := h2 ρ1 S2 σ1 _ (I1.grow b2) (hG _ _ t1) (hP1 _ _ b2 pS) g3
        obtain ⟨dz, S4, p1, p2, p3⟩ := h3 ρ1 S3 σ1 _ ((I1.grow b2).grow q2) (hG _ _ t1) (hP1 _ _ q2 (hP1 _ _ b2 pS)) g4
        obtain rfl := rep_str.mp q3
        have e3 : S4[n]? = some (.dct acc) := pre_get p2.pre (pre_get q2.pre (pre_get b2.pre e1))
        have nl3 : n < S4.length := (List.getElem?_eq_some_iff.mp e3).1
        have I3 : Iv r b own c ρ S4 σ := ((I.grow b2).grow q2).grow p2
        have vs : vis c.H (S4.set n (.dct (dPut acc (r ks) dz))) = vis c.H S4 := vis_set hH
        obtain ⟨S5, acc', f1, f2, f3, f4⟩ := ih (i + 1) m (S4.set n (.dct (dPut acc (r ks) dz))) (dPutV accU ks z) (dPut acc (r ks) dz) out (hd'.2 ▸ k2) hi' (by omega) (I3.put hn rfl) (hP2 _ _ (hP1 _ _ p2 (hP1 _ _ q2 (hP1 _ _ b2 pS)))) (by rw [vs]; exact fun j o z => p2.vis j o (q2.vis j o (b2.vis j o (le j o z)))) (List.getElem?_set_self nl3) (by have := dPut_len acc (r ks) dz; omega) (by rw [vs]; exact dPut_ok R p3 (((e2.mono b2.vis).mono q2.vis).mono p2.vis)) e
        refine ⟨S5, acc', ?_, (((b2.gn.trans q2.gn).trans p2.gn).trans (Gn.put rfl)).trans f2, f3, f4⟩
        simp only [if_true, q1, p1, Res.quiet, Res.bind_ok, e3]
        rw [if_pos (by simp only [lim_is]; omega)]
        exact f1
/-! ### try: for ..: o.m(..) except -/
theorem tgD_len {t : Tg} {d : D} {ρ ρ1 : Env} (h : tgD t d ρ = some ρ1) : ρ1.length = ρ.length := by
  have key : ∀ (is : List Nat) (ds : List D) (ρ : Env), (setAll is ds ρ).length = ρ.length := by
    intro is
    induction is with
    | nil => intro ds ρ; simp [setAll]
    | cons i is ih => intro ds ρ; cases ds with
      | nil => simp [setAll]
      | cons d ds => rw [setAll, ih]; simp
  unfold tgD at h
  split at h
  · cases h; simp
  · split at h
    · cases h; exact key _ _ _
    · cases h
  · cases h
theorem for_sX {nxt : Nat → Store → Option (Option D)} {t : Tg} {E : EF} : ∀ (m i : Nat) (ρ : Env) (S : Store), match forF nxt t (sExpr E) m i ρ S with
    | .ok o S' => forF nxt t (sX (sExpr E)) m i ρ S = .ok o S'
    | .exc x S' => ∃ ρ', forF nxt t (sX (sExpr E)) m i ρ S = .ok (.xc x ρ') S' ∧ ρ'.length = ρ.length
    | .stuck => True
  | 0, i, ρ, S => by simp [forF]
  | m + 1, i, ρ, S => by
    cases q : nxt i S with
    | none => simp only [forF, q]
    | some z =>
      cases z with
      | none => simp only [forF, q]
      | some d =>
        cases w : tgD t d ρ with
        | none => simp only [forF, q, w]
        | some ρ1 =>
          have lw := tgD_len w
          cases y : E ρ1 S with
          | ok d' S1 =>
            have h1 : forF nxt t (sExpr E) (m + 1) i ρ S = forF nxt t (sExpr E) m (i + 1) ρ1 S1 := by
              conv => lhs; unfold forF
              simp only [q, w]
              simp [sExpr, y]
            have h2 : forF nxt t (sX (sExpr E)) (m + 1) i ρ S = forF nxt t (sX (sExpr E)) m (i + 1) ρ1 S1 := by
              conv => lhs; unfold forF
              simp only [q, w]
              simp [sX, sExpr, y]
            have ih := for_sX (nxt := nxt) (t := t) (E := E) m (i + 1) ρ1 S1
            rw [h1, h2]
            cases u : forF nxt t (sExpr E) m (i + 1) ρ1 S1 with
            | ok o S2 => rw [u] at ih; exact ih
            | exc x S2 => rw [u] at ih; obtain ⟨ρ', h1, h2⟩ := ih; exact ⟨ρ', h1, h2.trans lw⟩
            | stuck => trivial
          | exc x S1 =>
            have h1 : forF nxt t (sExpr E) (m + 1) i ρ S = .exc x S1 := by
              conv => lhs; unfold forF
              simp only [q, w]
              simp [sExpr, y]
            have h2 : forF nxt t (sX (sExpr E)) (m + 1) i ρ S = .ok (.xc x ρ1) S1 := by
              conv => lhs; unfold forF
              simp only [q, w]
              simp [sX, sExpr, y]
            rw [h1, h2]
            exact ⟨ρ1, rfl, lw⟩
          | stuck =>
            have h1 : forF nxt t (sExpr E) (m + 1) i ρ S = .stuck := by
              conv => lhs; unfold forF
              simp only [q, w]
              simp [sExpr, y]
            rw [h1]
            trivial
def xTry (s : Sy) (i : Nat) (dc : U) (V : XSt Rs) : XSt Rs := fun σ x => (V σ x).bind fun o => match o with
  | .ex w x1 => if i < σ.length ∧ dc.cst s = true then some (.ret (.tup [dc, w]) x1) else none
  | o => some o
theorem sx_try (R : Rn s r) {Q : Rsc Rs} {i : Nat} {dc : U} {dd : D} (hd : dd = dc.toD) {it : IF} {t : Tg} {E : EF} {vi : VA} {V : XSt Rs} (hi : SI r b [] it vi) (ht : ∀ i ∈ t.slots, i ∉ fx.map (·.1)) (hB : SX r b Q fx xx (sExpr E) V) : SX r b Q fx xx (sTryR i xx.cls xx.fld dd [] (sFor it t (sX (sExpr E)))) (xTry s i dc (xFor vi t V)) := fun c ρ S σ x o I e => by
  obtain ⟨o1, e1, e⟩ := bnd e
  have g := sx_for hi ht hB c ρ S σ x o1 I e1
  obtain ⟨us, e2, _⟩ := bnd e1
  obtain ⟨src, S1, a1, _⟩ := hi c ρ S σ us I.iv e2
  have f := for_sX (nxt := src.nxt) (t := t) (E := E) src.fuel 0 ρ S1
  have s1 : sFor it t (sExpr E) ρ S = forF src.nxt t (sExpr E) src.fuel 0 ρ S1 := by simp [sFor, a1]
  have s2 : sFor it t (sX (sExpr E)) ρ S = forF src.nxt t (sX (sExpr E)) src.fuel 0 ρ S1 := by simp [sFor, a1]
  rw [← s1, ← s2] at f
  cases o1 with
  | nx σ1 x1 => cases e; obtain ⟨ρ', S', g1, g2⟩ := g; rw [g1] at f; exact ⟨ρ', S', by simp only [sTryR, f], g2⟩
  | ct σ1 x1 => cases e; obtain ⟨ρ', S', g1, g2⟩ := g; rw [g1] at f; exact ⟨ρ', S', by simp only [sTryR, f], g2⟩
  | bk σ1 x1 => cases e; obtain ⟨ρ', S', g1, g2⟩ := g; rw [g1] at f; exact ⟨ρ', S', by simp only [sTryR, f], g2⟩
  | ret u x1 => cases e; obtain ⟨d, S', g1, g2⟩ := g; rw [g1] at f; exact ⟨d, S', by simp only [sTryR, f], g2⟩
  | ex w x1 =>
    simp only at e
    split at e
    case isFalse => cases e
    rename_i q
    cases e
    obtain ⟨d, S', g1, g2, g3⟩ := g
    rw [g1] at f
    obtain ⟨ρ', f1, f2⟩ := f
    refine ⟨.tup [dd, d], S', ?_, g2, rep_tup.mpr ⟨_, rfl, .cons (hd ▸ cst_rep R dc q.2) (.cons g3 .nil)⟩⟩
    simp only [sTryR, f1, Xx.xc, if_true, fGet]
    rw [if_pos (by rw [f2, I.iv.len]; exact q.1)]
/-! ### a dict that is made anew -/
theorem sf_dc (R : Rn s r) {it : IF} {t : Tg} {ti : TF} {ek ev : EF} {vs : List Nat} {vi : VA} {vti : VT} {vk vv : VF} (hi : SI r b own it vi) (ht : ∀ i ∈ t.slots, i ∉ own) (hv : ∀ i ∈ vs, i ∉ own) (h1 : STt r b own ti vti) (h2 : SP r b own ek vk) (h3 : SP r b own ev vv) : SF' r b own (eDc it t ti ek ev vs) (vDc vi t vti vk vv vs) := fun c ρ S σ u I e => by
  obtain ⟨us, e1, e⟩ := bnd e
  split at e
  case isFalse => cases e
  rename_i hl
  obtain ⟨out, e2, rfl⟩ := Option.map_eq_some_iff.mp e
  obtain ⟨src, S1, a1, a2, ds, a3, a4, a5⟩ := hi c ρ S σ us I e1
  have I1 := I.grow a2
  have I2 := (I1.hide (o := .dct []) rfl).wipe hv
  have len : ds.length = us.length := a3.length
  obtain ⟨S', acc', f1, f2, f3, f4⟩ := vdc_run R (n := S1.length) (c := c.hid S1.length) (S1 := S1 ++ [.dct []]) hid_mem ht h1 h2 h3 (fun S'' i le hi => a5 S'' i (fun j o z => vis_unhid _ _ (le j o (vis_hid _ _ z))) hi) (by omega) us 0 src.fuel (S1 ++ [.dct []]) ([], []) [] out (by simpa using a3.mono vis_hid) (Nat.zero_le _) (by omega) I2 (fun _ _ z => z) (by simp) (by simp) ⟨rfl, .nil⟩ e2
  exact ⟨S1.length, S', by simp only [eDc, a1, Res.bind_ok]; exact f1, a2.trans (f2.gr rfl), a2.le, by have := f2.len; simp at this; omega, acc', f3, f4.1, f4.2⟩
/-- a def that gives a new object -/
def PuF (r : Txt → Txt) (b : Bool) (C : CF) (V : List U → Option U) : Prop := ∀ (L h : List Nat) (S : Store) (us : List U) (ds : List D) (u : U), (b = true → L = []) → Nl L S → (∀ m ∈ h, m < S.length) → reps r (vis h S) us ds → V us = some u → ∃ m S', C ds S = .ok (.ref m) S' ∧ Gr L S S' ∧ S.length ≤ m ∧ m < S'.length ∧ orep r (m :: h) S' u m
theorem puf_body {k : Nat} {E : EF} {V : VF} (h : SF' r b [] E V) : PuF r b (bodyF k (sRet E)) (vBody k (vRet V)) := fun L hh S us ds u lk nl hb hs e => by
  obtain ⟨o, e1, e⟩ := bnd e
  obtain ⟨y, e2, e1⟩ := bnd e1
  cases e1
  cases e
  obtain ⟨m, S', f1, f2, f3, f4, f5⟩ := h ⟨L, hh, []⟩ _ S _ _ (iv_start k lk nl hb hs) e2
  exact ⟨m, S', by simp [bodyF, sRet, f1], f2, f3, f4, by simpa [Cv.H, Cv.ms] using f5⟩
/-! ### the end of a run -/
def xFin (s : Sy) (dn : U) (k : Nat) : XV Rs := fun σ x => (vC s dn σ).bind fun w => (sortedDV s [.dct x.ks x.us]).bind fun l => match l with
  | .lst ws => (vdcF (.nm k) (fun _ => some true) (vVar k) (vOp rixV (fun _ => some (.dct x.ks x.us)) (vVar k)) (wipeV σ [k]) ws ([], [])).map fun p => .tup [w, .dct p.1 p.2]
  | _ => none
theorem xs_fin (R : Rn s r) (h0 : (0, rn) ∈ fx) {dn : U} {dd : D} {k : Nat} (hk : k ≠ 0) (hd : dd = dn.toD) : XS r b (rsc r A rn n m) fx (eTup (aCons (eC dd) (aCons (eDc (iVal (eCall sortedDF (aCons (eFld A "values_now" (eVar 0)) aNil))) (.nm k) tYesF (eVar k) (eOp rixO (eFld A "values_now" (eVar 0)) (eVar k)) [k]) aNil))) (xFin s dn k) := fun c ρ S σ x u I e => by
  obtain ⟨w, e1, e⟩ := bnd e
  obtain ⟨l, e2, e⟩ := bnd e
  split at e
  case h_2 => cases e
  rename_i _w ws
  obtain ⟨p, e3, rfl⟩ := Option.map_eq_some_iff.mp e
  obtain ⟨d0, S0, z1, z2, z3⟩ := sp_c (own := []) (b := b) R hd c ρ S σ w I.iv e1
  cases z1
  obtain ⟨d1, S1, a1, a2, a3⟩ := xl_vals h0 c ρ S σ x _ I rfl
  have I1 := I.grow a2
  obtain ⟨d2, S2, f1, f2, f3⟩ := cv_sortedD R c.L c.H S1 [.dct x.ks x.us] _ [d1] I1.iv.lk I1.iv.nl I1.iv.hb ⟨d1, [], rfl, a3, rfl⟩ e2
  have I2 := I1.grow f2
  obtain ⟨src, g1, ds, g2, g3, g4⟩ := items_ok R (H := c.H) (S := S2) f3 (show itemsU s (.lst ws) = some ws from rfl)
  obtain ⟨r1, ⟨kvs, r2, r3⟩, _⟩ := id I2.re
  have n1 : n < S2.length := (List.getElem?_eq_some_iff.mp r2).1
  have n2 : rn < S2.length := (List.getElem?_eq_some_iff.mp r1).1
  have J := (I2.iv.hide (o := .dct []) rfl).wipe (vs := [k]) (by simp)
  have hH : S2.length ∈ (c.hid S2.length).H := List.mem_append_left _ List.mem_cons_self
  have wl : ws.length ≤ 1000000 := by
    simp only [sortedDV] at e2
    split at e2
    case isFalse => cases e2
    rename_i q
    cases e2
    simp only [Bool.and_eq_true, decide_eq_true_eq] at q
    rw [List.length_map, (sortT_perm _).length_eq]
    omega
  have len := g2.length
  have hG : ∀ d ρ1, tgD (.nm k) d (wipeE ρ [k]) = some ρ1 → ρ1[0]? = some (some (.ref rn)) := fun d ρ1 q => by
    cases q
    rw [List.getElem?_set_ne hk]
    show ((wipeE ρ []).set k none)[0]? = _
    rw [List.getElem?_set_ne hk]
    exact I.fx _ h0
  obtain ⟨S', acc', q1, q2, q3, q4⟩ := vdcP_run R (P := fun S => S[rn]? = some (.ins A [("values_now", .ref n), ("spots_seen", .ref m)]) ∧ S[n]? = some (.dct kvs) ∧ repD r (vis (c.hid S2.length).H S) (x.ks, x.us) kvs) (G := fun ρ => ρ[0]? = some (some (.ref rn))) (ek := eVar k) (ev := eOp rixO (eFld A "values_now" (eVar 0)) (eVar k)) (n := S2.length) (c := c.hid S2.length) (S1 := S2 ++ [.dct []]) (t := .nm k) (ti := tYesF) (vti := fun _ => some true) (own := []) (b := b) hid_mem (by simp) st_yes
    (fun ρ S σ u I _ _ e => sp_var k (by simp) _ ρ S σ u I e)
    (fun ρ S σ u I hg hp e => by
      obtain ⟨y, t1, e⟩ := bnd e
      obtain ⟨z, t2, e⟩ := bnd e
      cases t1
      obtain ⟨dz, Sz, b1, b2, b3⟩ := sp_var (own := []) k (by simp) _ ρ S σ z I t2
      have : Sz = S := by
        have := vVar_of t2
        obtain ⟨d, q1, q2⟩ := I.pl k z this (by simp)
        rw [ev_of q1] at b1
        cases b1; rfl
      subst this
      obtain ⟨d, S3, c1, c2, c3⟩ := ov_rix R (b := b) _ _ Sz (.dct x.ks x.us) z u (.ref n) dz I.lk I.nl I.hb ⟨kvs, datV_of (.inl hp.2.1) (by simp), hp.2.2.1, hp.2.2.2⟩ b3.one e
      exact ⟨d, S3, by simp [eOp, eFld, ev_of hg, fldO, hp.1, fGet, b1, c1, Res.of], c2, c3⟩)
    (fun S S' g ⟨p1, p2, p3⟩ => ⟨pre_get g.pre p1, pre_get g.pre p2, p3.mono g.vis⟩)
    (fun S o ⟨p1, p2, p3⟩ => ⟨by rw [List.getElem?_set_ne (by omega)]; exact p1, by rw [List.getElem?_set_ne (by omega)]; exact p2, by rw [vis_set hH]; exact p3⟩)
    hG (fun S'' i le hi => g4 S'' i (fun j o z => vis_unhid _ _ (le j o (vis_hid _ _ z))) hi) (by omega) ws 0 src.fuel (S2 ++ [.dct []]) ([], []) [] p (by simpa using g2.mono vis_hid) (Nat.zero_le _) (by omega) J ⟨by rw [List.getElem?_append_left n2]; exact r1, by rw [List.getElem?_append_left n1]; exact r2, r3.mono vis_hid⟩ (fun _ _ z => z) (by simp) (by simp) ⟨rfl, .nil⟩ e3
  have G := (a2.trans f2).trans (q2.gr rfl)
  refine ⟨.tup [dd, .ref S2.length], S', ?_, G, rep_tup.mpr ⟨_, rfl, .cons (z3.mono G.vis) (.cons (rep_dct.mpr ⟨acc', datV_of (.inl q3) (not_H I2.iv), q4.1, q4.2.mono vis_unhid⟩) .nil)⟩⟩
  have ed : eDc (iVal (eCall sortedDF (aCons (eFld A "values_now" (eVar 0)) aNil))) (.nm k) tYesF (eVar k) (eOp rixO (eFld A "values_now" (eVar 0)) (eVar k)) [k] ρ S = .ok (.ref S2.length) S' := by
    simp only [eDc, iVal, eCall, aCons, aNil, a1, Res.bind_ok, f1, Res.of, g1, ofSrc]
    exact q1
  simp only [eTup, aCons, aNil, eC, Res.bind_ok, ed]
  rfl
end
end Al

set_option Elab.async false
set_option linter.all false
set_option maxRecDepth 100000
set_option maxHeartbeats 1000000
/-! Vs: a dict and a list that are handed on as arguments (the laws' own runner). -/
namespace Al
open PySem
def rsc2 (r : Txt → Txt) (n m : Nat) : Rsc Rs where
  ix := [n, m]
  rel := fun v S x => (∃ kvs, S[n]? = some (.dct kvs) ∧ repD r v (x.ks, x.us) kvs) ∧ ∃ ls, S[m]? = some (.lst ls) ∧ reps r v x.sp ls
  grow := fun ⟨⟨kvs, h2, h3⟩, ls, h4, h5⟩ g l => ⟨⟨kvs, pre_get g h2, h3.mono l⟩, ls, pre_get g h4, h5.mono l⟩
def xOr {X : Type} (a b : XV X) : XV X := fun σ x => (a σ x).bind fun y => match y with
  | .bl true => some (.bl true)
  | .bl false => b σ x
  | _ => none
def xAnd {X : Type} (a b : XV X) : XV X := fun σ x => (a σ x).bind fun y => match y with
  | .bl true => b σ x
  | .bl false => some (.bl false)
  | _ => none
section
variable {s : Sy} {r : Txt → Txt} {b : Bool} {n m i0 i2 : Nat} {fx : List (Nat × Nat)} {xx : Xx} {own : List Nat}
theorem xs_or {X : Type} {Q : Rsc X} {ea eb : EF} {va vb : XV X} (ha : XS r b Q fx ea va) (hb : XS r b Q fx eb vb) : XS r b Q fx (eOr ea eb) (xOr va vb) := fun c ρ S σ x u I e => by
  obtain ⟨y, e1, e⟩ := bnd e
  obtain ⟨d1, S1, a1, a2, a3⟩ := ha c ρ S σ x y I e1
  split at e
  · obtain rfl := rep_bl.mp a3
    cases e
    exact ⟨_, S1, by simp [eOr, a1], a2, rep_bl.mpr rfl⟩
  · obtain rfl := rep_bl.mp a3
    obtain ⟨d2, S2, c1, c2, c3⟩ := hb c ρ S1 σ x u (I.grow a2) e
    exact ⟨d2, S2, by simp [eOr, a1, c1], a2.trans c2, c3⟩
  · cases e
theorem xs_and {X : Type} {Q : Rsc X} {ea eb : EF} {va vb : XV X} (ha : XS r b Q fx ea va) (hb : XS r b Q fx eb vb) : XS r b Q fx (eAnd ea eb) (xAnd va vb) := fun c ρ S σ x u I e => by
  obtain ⟨y, e1, e⟩ := bnd e
  obtain ⟨d1, S1, a1, a2, a3⟩ := ha c ρ S σ x y I e1
  split at e
  · obtain rfl := rep_bl.mp a3
    obtain ⟨d2, S2, c1, c2, c3⟩ := hb c ρ S1 σ x u (I.grow a2) e
    exact ⟨d2, S2, by simp [eAnd, a1, c1], a2.trans c2, c3⟩
  · obtain rfl := rep_bl.mp a3
    cases e
    exact ⟨_, S1, by simp [eAnd, a1], a2, rep_bl.mpr rfl⟩
  · cases e
theorem xl_env (h0 : (i0, n) ∈ fx) : XL r b (rsc2 r n m) fx (eVar i0) xVals := fun c ρ S σ x u I e => by
  cases e
  obtain ⟨⟨kvs, h2, h3⟩, _⟩ := I.re
  exact ⟨.ref n, S, ev_of (I.fx _ h0), .refl, kvs, datV_of (.inl h2) (by simp), h3.1, h3.2⟩
theorem nm_ne2 {v : View} {S : Store} {x : Rs} (h : (rsc2 r n m).rel v S x) : n ≠ m := by
  obtain ⟨⟨kvs, h2, _⟩, ls, h4, _⟩ := h
  intro z
  rw [z, h4] at h2; cases h2
theorem rs2_set {c : Cv} {ρ : Env} {S : Store} {σ : VEnv} {x x' : Rs} (I : Ix r b (rsc2 r n m) fx c ρ S σ x) {i : Nat} (hi : i ∈ [n, m]) {o : O} (ho : unlO o = o) (h : (rsc2 r n m).rel (vis c.H S) (S.set i o) x') : Kv c.L (rsc2 r n m).ix S (S.set i o) ∧ Ix r b (rsc2 r n m) fx c ρ (S.set i o) σ x' := by
  have ih : i ∈ c.h := I.hid i hi
  have iH : i ∈ c.H := List.mem_append_left _ ih
  refine ⟨⟨by simp, fun j _ hj => List.getElem?_set_ne fun (z : i = j) => hj (z ▸ hi), fun h => h.set ho⟩, I.iv.put ih ho, I.hid, I.fx, by rw [vis_set iH]; exact h⟩
theorem sx_app2 (h0 : (i2, m) ∈ fx) {E : EF} {V : XV Rs} (h : XS r b (rsc2 r n m) fx E V) : SX r b (rsc2 r n m) fx xx (sExpr (eM "list" appendM (eVar i2) (aCons E aNil))) (xApp V) := fun c ρ S σ x o I e => by
  obtain ⟨u, e1, e⟩ := bnd e
  split at e
  case isFalse => cases e
  rename_i hl
  cases e
  obtain ⟨_, ls, g4, g5⟩ := I.re
  obtain ⟨d, S1, a1, a2, a3⟩ := h c ρ S σ x u I e1
  have I1 := I.grow a2
  obtain ⟨f2, ls', f4, f5⟩ := id I1.re
  have e4 : ls' = ls := by
    have := pre_get a2.pre g4
    rw [f4] at this
    cases this; rfl
  subst e4
  have ne := nm_ne2 I1.re
  have ml : m < S1.length := (List.getElem?_eq_some_iff.mp f4).1
  have ln := f5.length
  obtain ⟨k, J⟩ := rs2_set I1 (i := m) (x' := ⟨x.ks, x.us, x.sp ++ [u]⟩) (by simp) (o := .lst (ls' ++ [d])) rfl ⟨by obtain ⟨kvs, p1, p2⟩ := f2; exact ⟨kvs, by rw [List.getElem?_set_ne (Ne.symm ne)]; exact p1, p2⟩, _, List.getElem?_set_self ml, f5.append (.cons a3 .nil)⟩
  refine ⟨ρ, _, ?_, a2.kv.tr k, J⟩
  simp only [sExpr, eM, ev_of (I.fx _ h0), Res.bind_ok]
  rw [if_pos (v_tyl g4)]
  simp only [aCons, aNil, a1, Res.bind_ok]
  rw [v_app f4 (by simp only [lim_is]; omega)]
  rfl
theorem sx_put2 (R : Rn s r) (h0 : (i0, n) ∈ fx) {E Ek : EF} {V W : XV Rs} (h : XS r b (rsc2 r n m) fx E V) (hk : XS r b (rsc2 r n m) fx Ek W) : SX r b (rsc2 r n m) fx xx (sPut putO E (eVar i0) Ek) (xPut V W) := fun c ρ S σ x o I e => by
  obtain ⟨u, e1, e⟩ := bnd e
  obtain ⟨w, e2, e⟩ := bnd e
  cases w <;> try (cases e; done)
  rename_i z
  simp only at e
  split at e
  case isFalse => cases e
  rename_i hl
  cases e
  obtain ⟨d, S1, a1, a2, a3⟩ := h c ρ S σ x u I e1
  have I1 := I.grow a2
  obtain ⟨dk, S2, b1, b2, b3⟩ := hk c ρ S1 σ x _ I1 e2
  have I2 := I1.grow b2
  obtain rfl := rep_str.mp b3
  obtain ⟨⟨kvs, f2, f3⟩, f4⟩ := id I2.re
  have ne := nm_ne2 I2.re
  have ml : n < S2.length := (List.getElem?_eq_some_iff.mp f2).1
  have ln : kvs.length = x.ks.length := by simpa using congrArg List.length f3.1
  obtain ⟨k, J⟩ := rs2_set I2 (i := n) (x' := ⟨(dPutV (x.ks, x.us) z u).1, (dPutV (x.ks, x.us) z u).2, x.sp⟩) (by simp) (o := .dct (dPut kvs (r z) d)) rfl ⟨⟨_, List.getElem?_set_self ml, dPut_ok R (a3.mono b2.vis) f3⟩, by obtain ⟨ls, p1, p2⟩ := f4; exact ⟨ls, by rw [List.getElem?_set_ne ne]; exact p1, p2⟩⟩
  refine ⟨ρ, _, ?_, (a2.trans b2).kv.tr k, J⟩
  simp only [sPut, a1, Res.bind_ok, ev_of (I.fx _ h0), b1, putO, dctAt, f2, Option.bind_some]
  rw [if_pos (by simp only [lim_is]; omega)]
theorem sx_pop2 (R : Rn s r) (h0 : (i0, n) ∈ fx) {Ek : EF} {W : XV Rs} (hk : XS r b (rsc2 r n m) fx Ek W) : SX r b (rsc2 r n m) fx xx (sExpr (eGet2 popO (eVar i0) Ek (eC .non))) (xPop W) := fun c ρ S σ x o I e => by
  obtain ⟨w, e2, e⟩ := bnd e
  cases w <;> try (cases e; done)
  rename_i z
  cases e
  obtain ⟨⟨kvs0, g2, _⟩, _⟩ := I.re
  obtain ⟨dk, S2, b1, b2, b3⟩ := hk c ρ S σ x _ I e2
  have I2 := I.grow b2
  obtain rfl := rep_str.mp b3
  obtain ⟨⟨kvs, f2, f3⟩, f4⟩ := id I2.re
  have ne := nm_ne2 I2.re
  have ml : n < S2.length := (List.getElem?_eq_some_iff.mp f2).1
  have isd : isDc (.ref n) S = true := by simp [isDc, rdAt, g2]
  have dr := dDrop_ok R (z := z) x.ks x.us kvs f3
  cases q : dGet kvs (r z) with
  | none =>
    rw [dGet_none_drop kvs q] at dr
    refine ⟨ρ, S2, ?_, b2.kv, I2.iv, I2.hid, I2.fx, ⟨kvs, f2, dr⟩, f4⟩
    simp only [sExpr, eGet2, ev_of (I.fx _ h0), Res.bind_ok]
    rw [if_pos isd]
    simp [b1, eC, popO, dctAt, f2, q, Res.of]
  | some y =>
    obtain ⟨k, J⟩ := rs2_set I2 (i := n) (x' := ⟨(dDropV x.ks x.us z).1, (dDropV x.ks x.us z).2, x.sp⟩) (by simp) (o := .dct (dDrop kvs (r z))) rfl ⟨⟨_, List.getElem?_set_self ml, dr⟩, by obtain ⟨ls, p1, p2⟩ := f4; exact ⟨ls, by rw [List.getElem?_set_ne ne]; exact p1, p2⟩⟩
    refine ⟨ρ, _, ?_, b2.kv.tr k, J⟩
    simp only [sExpr, eGet2, ev_of (I.fx _ h0), Res.bind_ok]
    rw [if_pos isd]
    simp [b1, eC, popO, dctAt, f2, q, Res.of]
def xBody2 (k : Nat) (V : XSt Rs) (us : List U) (x : Rs) : Option (XR Rs) := match us with
  | [u] => xBody (fun _ => [none, some u, none] ++ List.replicate (k - 3) none) V us x
  | _ => none
abbrev mk2 (n m : Nat) (ds : List D) : List D := .ref n :: (ds ++ [.ref m])
theorem xe_call2 {C : CF} {Ea : EF} {va : VF} {V : List U → Rs → Option (XR Rs)} (h0 : (i0, n) ∈ fx) (h2 : (i2, m) ∈ fx) (h : PuX r b (rsc2 r n m) xx C (mk2 n m) V) (ha : SP r b [] Ea va) : XE r b (rsc2 r n m) fx xx (eCallD C (aCons (eVar i0) (aCons Ea (aCons (eVar i2) aNil)))) (xCall V (vCons va vNil)) := fun c ρ S σ x o I e => by
  obtain ⟨us, e1, e⟩ := bnd e
  obtain ⟨u, e2, e1⟩ := bnd e1
  cases e1
  obtain ⟨d, S1, a1, a2, a3⟩ := ha c ρ S σ u I.iv e2
  have I1 := I.grow a2
  rw [show eCallD C (aCons (eVar i0) (aCons Ea (aCons (eVar i2) aNil))) ρ S = C (mk2 n m [d]) S1 by simp [eCallD, aCons, aNil, ev_of (I.fx _ h0), ev_of (I.fx _ h2), a1, mk2]]
  exact (pux_at h I1 (.cons a3 .nil) e).up a2.kv
/-- slots 0 and 2 hold the state, slot 1 the argument -/
theorem pux_body2 {k : Nat} (hk : 3 ≤ k) {B : SF} {V : XSt Rs} (h : SX r b (rsc2 r n m) [(0, n), (2, m)] xx B V) : PuX r b (rsc2 r n m) xx (bodyF k B) (mk2 n m) (xBody2 k V) := fun L hh S us ds x o lk nl hb hid re hs e => by
  have eH : Cv.H ⟨L, hh, []⟩ = hh := by simp [Cv.H, Cv.ms]
  match us, hs, e with
  | [u], hs, e =>
    obtain ⟨o1, e1, e⟩ := bnd e
    obtain ⟨d, y, rfl, k1, k2⟩ := hs.cons_iff
    cases k2.nil_iff
    have st : startE k (mk2 n m [d]) = [some (.ref n), some d, some (.ref m)] ++ List.replicate (k - 3) none := by simp [startE, mk2]
    have I : Ix r b (rsc2 r n m) [(0, n), (2, m)] ⟨L, hh, []⟩ (startE k (mk2 n m [d])) S ([none, some u, none] ++ List.replicate (k - 3) none) x := by
      refine ⟨⟨lk, fun i => by simp, nl, fun m hm => hb m (eH ▸ hm), by simp [Cv.ms], fun m hm => by simp [Cv.ms] at hm, by rw [st]; simp, ?_, fun i m hm => by simp at hm⟩, hid, ?_, by rw [eH]; exact re⟩
      · intro i w hi _
        rw [st]
        match i, hi with
        | 0, hi => simp at hi
        | 1, hi => simp at hi; subst hi; exact ⟨d, by simp, by rw [eH]; exact k1⟩
        | 2, hi => simp at hi
        | i + 3, hi =>
          simp only [List.cons_append, List.nil_append, List.getElem?_cons_succ] at hi
          have := List.mem_of_getElem? hi
          simp at this
      · intro p hp
        rw [st]
        simp at hp
        rcases hp with rfl | rfl <;> simp
    have g := h ⟨L, hh, []⟩ _ S _ x o1 I e1
    cases o1 with
    | nx σ1 x1 =>
      cases e
      obtain ⟨ρ', S', f1, f2, f3⟩ := g
      exact ⟨.non, S', by simp [bodyF, f1], ⟨f2, f3.re⟩, rep_non.mpr rfl⟩
    | ret u x1 => cases e; obtain ⟨d, S', f1, f2, f3⟩ := g; exact ⟨d, S', by simp [bodyF, f1], f2, f3⟩
    | ex u x1 => cases e; obtain ⟨d, S', f1, f2, f3⟩ := g; exact ⟨d, S', by simp [bodyF, f1], f2, f3⟩
    | ct σ1 x1 => cases e
    | bk σ1 x1 => cases e
  | [], hs, e => cases e
  | _ :: _ :: _, hs, e => cases e
/-! ### env = dict(env); for ..; return ("done", env) -/
abbrev tDone : Txt := [100, 111, 110, 101]
def xSeen (s : Sy) (V : XSt Rs) (k : Nat) (env rows : U) (seen : List U) : Option (U × List U) := match env with
  | .dct ks us => (V ([none, some rows, none] ++ List.replicate (k - 3) none) ⟨ks, us, seen⟩).bind fun o => match o with
    | .ret u x => some (u, x.sp)
    | .nx _ x => if s.free tDone then some (.tup [.str tDone, .dct x.ks x.us], x.sp) else none
    | _ => none
  | _ => none
theorem seen_ok (R : Rn s r) {k : Nat} (hk : 3 ≤ k) {B : SF} {V : XSt Rs} (hL : ∀ n m, SX r b (rsc2 r n m) [(0, n), (2, m)] xx B V) {L h : List Nat} {S : Store} {env rows u : U} {de dr : D} {seen seen' : List U} {ls : List D} (lk : b = true → L = []) (nl : Nl L S) (hb : ∀ m ∈ h, m < S.length) (hm : m ∈ h) (g1 : S[m]? = some (.lst ls)) (g2 : reps r (vis h S) seen ls) (k1 : rep r (vis h S) env de) (k2 : rep r (vis h S) rows dr) (e : xSeen s V k env rows seen = some (u, seen')) :
    ∃ d S' ls', bodyF k (sSeq (sSet 0 (eCall dictF (aCons (eVar 0) aNil))) (sSeq B (sRet (eTup (aCons (eC (.str tDone)) (aCons (eVar 0) aNil)))))) [de, dr, .ref m] S = .ok d S' ∧ Kv L [m] S S' ∧ S'[m]? = some (.lst ls') ∧ reps r (vis h S') seen' ls' ∧ rep r (vis h S') u d := by
  unfold xSeen at e
  split at e
  case h_2 => cases e
  rename_i ks us
  obtain ⟨o, e1, e⟩ := bnd e
  obtain ⟨kvs, q1, q2, q3⟩ := rep_dct.mp k1
  obtain ⟨n0, rfl, q4, q5⟩ := datV_vis q1
  have ml : m < S.length := hb m hm
  have st : startE k [.ref n0, dr, .ref m] = [some (.ref n0), some dr, some (.ref m)] ++ List.replicate (k - 3) none := by simp [startE]
  have eH : Cv.H ⟨L, h, []⟩ = h := by simp [Cv.H, Cv.ms]
  have eH2 : Cv.H (Cv.hid ⟨L, h, []⟩ S.length) = S.length :: h := by simp [Cv.H, Cv.ms]
  have I0 : Iv r b [] ⟨L, h, []⟩ ([some (.ref S.length), some dr, some (.ref m)] ++ List.replicate (k - 3) none) S ([none, some rows, none] ++ List.replicate (k - 3) none) := by
    refine ⟨lk, fun i => by simp, nl, fun m hm => hb m (eH ▸ hm), by simp [Cv.ms], fun m hm => by simp [Cv.ms] at hm, by simp, ?_, fun i m hm => by simp at hm⟩
    intro i w hi _
    match i, hi with
    | 0, hi => simp at hi
    | 1, hi => simp at hi; subst hi; exact ⟨dr, by simp, by rw [eH]; exact k2⟩
    | 2, hi => simp at hi
    | i + 3, hi =>
      simp only [List.cons_append, List.nil_append, List.getElem?_cons_succ] at hi
      have := List.mem_of_getElem? hi
      simp at this
  have le : Le (vis h S) (vis (S.length :: h) (S ++ [.dct kvs])) := by
    have := vis_hid (c := ⟨L, h, []⟩) (S := S) (o := .dct kvs)
    rw [eH, eH2] at this
    exact this
  have I : Ix r b (rsc2 r S.length m) [(0, S.length), (2, m)] (Cv.hid ⟨L, h, []⟩ S.length) ([some (.ref S.length), some dr, some (.ref m)] ++ List.replicate (k - 3) none) (S ++ [.dct kvs]) ([none, some rows, none] ++ List.replicate (k - 3) none) ⟨ks, us, seen⟩ := by
    refine ⟨I0.hide rfl, ?_, ?_, ?_⟩
    · intro i hi
      simp [rsc2] at hi
      rcases hi with rfl | rfl
      · exact List.mem_cons_self
      · exact List.mem_cons_of_mem _ hm
    · intro p hp
      simp at hp
      rcases hp with rfl | rfl <;> simp
    · rw [eH2]
      exact ⟨⟨kvs, by simp, q2, q3.mono le⟩, ls, by rw [List.getElem?_append_left ml]; exact g1, g2.mono le⟩
  have g := hL S.length m _ _ _ _ _ o I e1
  have run : ∀ res, B ([some (.ref S.length), some dr, some (.ref m)] ++ List.replicate (k - 3) none) (S ++ [.dct kvs]) = res → bodyF k (sSeq (sSet 0 (eCall dictF (aCons (eVar 0) aNil))) (sSeq B (sRet (eTup (aCons (eC (.str tDone)) (aCons (eVar 0) aNil)))))) [.ref n0, dr, .ref m] S = ((res.bind fun o S1 => match o with
      | .nx ρ1 => sRet (eTup (aCons (eC (.str tDone)) (aCons (eVar 0) aNil))) ρ1 S1
      | o => .ok o S1).bind fun o S' => match o with
      | .ret d => .ok d S'
      | .nx _ => .ok .non S'
      | _ => .stuck) := by
    intro res hr
    unfold bodyF
    rw [st]
    simp only [sSeq, sSet, eCall, aCons, aNil, eVar, List.cons_append, List.getElem?_cons_zero, Res.bind_ok, dictF, rd_of q4, Option.map_some, Res.of, List.set_cons_zero]
    simp only [List.cons_append] at hr
    rw [hr] <;> rfl
  have kvm : ∀ {S'}, Kv L [S.length, m] (S ++ [.dct kvs]) S' → Kv L [m] S S' := fun {S'} kk => by
    refine ⟨by have := kk.len; simp at this; omega, fun i hi hn => ?_, fun z => kk.nl ((Gr.app _ rfl).nl z)⟩
    rw [kk.get i (by simp; omega) (by simp at hn ⊢; exact ⟨by omega, hn⟩), List.getElem?_append_left hi]
  have sub : ∀ S', Le (vis (S.length :: h) S') (vis h S') := fun S' => .sub fun i hi => List.mem_cons_of_mem _ hi
  cases o with
  | nx σ1 x1 =>
    simp only at e
    split at e
    case isFalse => cases e
    rename_i fr
    cases e
    obtain ⟨ρ', S', f1, f2, f3⟩ := g
    obtain ⟨⟨kv', p1, p2⟩, ls', p3, p4⟩ := f3.re
    rw [eH2] at p2 p4
    refine ⟨.tup [.str tDone, .ref S.length], S', ls', ?_, kvm f2, p3, p4.mono (sub S'), rep_tup.mpr ⟨_, rfl, .cons (rep_str.mpr (by rw [R.fix _ fr])) (.cons (rep_dct.mpr ⟨kv', datV_of (.inl p1) (fun z => by have := hb _ z; omega), p2.1, p2.2.mono (sub S')⟩) .nil)⟩⟩
    rw [run _ f1]
    simp [sRet, eTup, aCons, aNil, eC, ev_of (f3.fx (0, S.length) (by simp))]
  | ret w x1 =>
    cases e
    obtain ⟨d, S', f1, f2, f3⟩ := g
    obtain ⟨_, ls', p3, p4⟩ := f2.re
    rw [eH2] at p4 f3
    exact ⟨d, S', ls', by rw [run _ f1]; simp, kvm f2.kv, p3, p4.mono (sub S'), f3.mono (sub S')⟩
  | ct σ1 x1 => cases e
  | bk σ1 x1 => cases e
  | ex w x1 => cases e
def vRunX (s : Sy) (V : XSt Rs) (k : Nat) (us : List U) : Option U := match us with
  | [env, rows] => (xSeen s V k env rows []).map (·.1)
  | _ => none
/-- run with a list of its own -/
theorem run_ok (R : Rn s r) {k : Nat} (hk : 3 ≤ k) {B : SF} {V : XSt Rs} (hL : ∀ n m, SX r b (rsc2 r n m) [(0, n), (2, m)] xx B V) {C : CF} (hC : C = bodyF k (sSeq (sSet 0 (eCall dictF (aCons (eVar 0) aNil))) (sSeq B (sRet (eTup (aCons (eC (.str tDone)) (aCons (eVar 0) aNil))))))) :
    Pu r b (bodyF 2 (sRet (eCallD C (aCons (eVar 0) (aCons (eVar 1) (aCons (eLst aNil) aNil)))))) (vRunX s V k) := fun L h S us ds u lk nl hb hs e => by
  unfold vRunX at e
  split at e
  case h_2 => cases e
  rename_i env rows
  obtain ⟨⟨u', seen'⟩, e1, rfl⟩ := Option.map_eq_some_iff.mp e
  obtain ⟨d0, y, rfl, k1, k2⟩ := hs.cons_iff
  obtain ⟨d1, y, rfl, k3, k4⟩ := k2.cons_iff
  cases k4.nil_iff
  have eH : Cv.H ⟨L, h, []⟩ = h := by simp [Cv.H, Cv.ms]
  have eH2 : Cv.H (Cv.hid ⟨L, h, []⟩ S.length) = S.length :: h := by simp [Cv.H, Cv.ms]
  have le : Le (vis h S) (vis (S.length :: h) (S ++ [.lst []])) := by
    have := vis_hid (c := ⟨L, h, []⟩) (S := S) (o := .lst [])
    rw [eH, eH2] at this
    exact this
  obtain ⟨d, S', ls', f1, f2, f3, f4, f5⟩ := seen_ok R hk hL (m := S.length) (L := L) (h := S.length :: h) (S := S ++ [.lst []]) lk ((Gr.app _ rfl).nl nl) (fun m hm => by
    simp only [List.mem_cons] at hm
    simp
    rcases hm with rfl | hm
    · omega
    · have := hb m hm; omega) List.mem_cons_self (ls := []) (by simp) .nil (k1.mono le) (k3.mono le) e1
  refine ⟨d, S', ?_, ?_, f5.mono (.sub fun i hi => List.mem_cons_of_mem _ hi)⟩
  · have q : startE 2 [d0, d1] = [some d0, some d1] := rfl
    rw [← hC] at f1
    simp [bodyF, q, sRet, eCallD, aCons, aNil, eVar, eLst, f1]
  · refine kv_gr ⟨by have := f2.len; simp at this; omega, fun i hi _ => ?_, fun z => f2.nl ((Gr.app _ rfl).nl z)⟩
    rw [f2.get i (by simp; omega) (by simp; omega), List.getElem?_append_left hi]
end
end Al

set_option Elab.async false
set_option linter.all false
set_option maxRecDepth 100000
set_option maxHeartbeats 1000000
/-! Vs: a renaming that sends some names to others. -/
namespace Al
def swp (x y z : Txt) : Txt := if z = x then y else if z = y then x else z
theorem swp_inv (x y z : Txt) : swp x y (swp x y z) = z := by
  unfold swp
  by_cases h1 : z = x
  · subst h1
    by_cases h2 : y = z
    · subst h2; simp
    · simp [h2]
  · by_cases h2 : z = y
    · subst h2; simp [h1]
    · simp [h1, h2]
theorem swp_inj {x y a b : Txt} (h : swp x y a = swp x y b) : a = b := by rw [← swp_inv x y a, h, swp_inv]
def mkR : List (Txt × Txt) → Txt → Txt
  | [], z => z
  | p :: ps, z => swp (mkR ps p.1) p.2 (mkR ps z)
theorem mkR_inj : ∀ (ps : List (Txt × Txt)) {a b : Txt}, mkR ps a = mkR ps b → a = b
  | [], a, b, h => h
  | p :: ps, a, b, h => mkR_inj ps (swp_inj h)
theorem mkR_in {K : List Txt} : ∀ (ps : List (Txt × Txt)), (∀ p ∈ ps, p.1 ∈ K ∧ p.2 ∈ K) → (∀ z, z ∈ K → mkR ps z ∈ K) ∧ ∀ z, z ∉ K → mkR ps z = z
  | [], _ => ⟨fun z h => h, fun z _ => rfl⟩
  | p :: ps, h => by
    obtain ⟨i1, i2⟩ := mkR_in ps fun q hq => h q (List.mem_cons_of_mem _ hq)
    obtain ⟨p1, p2⟩ := h p List.mem_cons_self
    have q1 := i1 _ p1
    constructor
    · intro z hz
      have := i1 z hz
      simp only [mkR, swp]
      split
      · exact p2
      · split
        · exact q1
        · exact this
    · intro z hz
      simp only [mkR, i2 z hz, swp]
      rw [if_neg (fun (w : z = mkR ps p.1) => hz (w ▸ q1)), if_neg (fun (w : z = p.2) => hz (w ▸ p2))]
theorem mkR_at : ∀ (ps : List (Txt × Txt)), (ps.map (·.1)).Nodup → (ps.map (·.2)).Nodup → ∀ p ∈ ps, mkR ps p.1 = p.2
  | [], _, _, p, h => by cases h
  | q :: ps, n1, n2, p, h => by
    simp only [List.map_cons, List.nodup_cons] at n1 n2
    rcases List.mem_cons.mp h with rfl | h
    · simp [mkR, swp]
    · have ih := mkR_at ps n1.2 n2.2 p h
      simp only [mkR, ih, swp]
      have c1 : ¬ p.2 = mkR ps q.1 := fun w => by
        rw [← ih] at w
        have := mkR_inj ps w
        exact n1.1 (this ▸ List.mem_map.mpr ⟨p, h, rfl⟩)
      have c2 : ¬ p.2 = q.2 := fun (w : p.2 = q.2) => n2.1 (w ▸ List.mem_map.mpr ⟨p, h, rfl⟩)
      rw [if_neg c1, if_neg c2]
theorem pw_all {α : Type} {R : α → α → Prop} (hs : ∀ a b, R a b → R b a) (hr : ∀ a, R a a) : ∀ (l : List α), l.Pairwise R → ∀ a ∈ l, ∀ b ∈ l, R a b
  | [], _, a, h, _, _ => by cases h
  | x :: l, h, a, ha, b, hb => by
    obtain ⟨h1, h2⟩ := List.pairwise_cons.mp h
    rcases List.mem_cons.mp ha with e1 | ha'
    · rcases List.mem_cons.mp hb with e2 | hb'
      · rw [e1, e2]; exact hr _
      · rw [e1]; exact h1 _ hb'
    · rcases List.mem_cons.mp hb with e2 | hb'
      · rw [e2]; exact hs _ _ (h1 _ ha')
      · exact pw_all hs hr l h2 a ha' b hb'
/-- both in order -/
theorem mkR_rn {K K0 : List Txt} {ps : List (Txt × Txt)} (h0 : ps.map (·.1) = K0) (hK : ∀ p ∈ ps, p.1 ∈ K ∧ p.2 ∈ K) (s1 : ps.Pairwise fun p q => leT q.1 p.1 = false ∧ leT q.2 p.2 = false) (hg : ∀ x ∈ K, strsOk x = true ∧ nmB x = true) : Rn ⟨K, K0⟩ (mkR ps) := by
  have refl : ∀ x, leT x x = true := fun x => by rcases leT_total x x with h | h <;> exact h
  have n1 : (ps.map (·.1)).Nodup := by
    unfold List.Nodup
    rw [List.pairwise_map]
    exact s1.imp fun h w => by rw [w, refl] at h; cases h.1
  have n2 : (ps.map (·.2)).Nodup := by
    unfold List.Nodup
    rw [List.pairwise_map]
    exact s1.imp fun h w => by rw [w, refl] at h; cases h.2
  have all : ∀ p ∈ ps, ∀ q ∈ ps, leT p.2 q.2 = leT p.1 q.1 := by
    have key : ∀ p q : Txt × Txt, p ∈ ps → q ∈ ps → (leT p.2 q.2 = leT p.1 q.1 ∧ leT q.2 p.2 = leT q.1 p.1) := by
      have s2 : ps.Pairwise fun p q => (leT p.2 q.2 = leT p.1 q.1 ∧ leT q.2 p.2 = leT q.1 p.1) := s1.imp fun {p q} h => by
        have a : leT p.1 q.1 = true := (leT_total p.1 q.1).resolve_right (by rw [h.1]; simp)
        have c : leT p.2 q.2 = true := (leT_total p.2 q.2).resolve_right (by rw [h.2]; simp)
        exact ⟨by rw [a, c], by rw [h.1, h.2]⟩
      intro p q hp hq
      exact pw_all (R := fun p q => (leT p.2 q.2 = leT p.1 q.1 ∧ leT q.2 p.2 = leT q.1 p.1)) (fun a b h => ⟨h.2, h.1⟩) (fun a => ⟨by rw [refl, refl], by rw [refl, refl]⟩) ps s2 p hp q hq
    exact fun p hp q hq => (key p q hp hq).1
  have at_ := mkR_at ps n1 n2
  obtain ⟨m1, m2⟩ := mkR_in ps hK
  have mem : ∀ x, x ∈ K0 → ∃ p ∈ ps, p.1 = x := fun x hx => by rw [← h0] at hx; obtain ⟨p, hp, e⟩ := List.mem_map.mp hx; exact ⟨p, hp, e⟩
  refine ⟨fun x hx => m2 x (by simpa [Sy.free] using hx), fun x y h => mkR_inj ps h, ?_, ?_, ?_⟩
  · intro x y hx hy
    obtain ⟨p, hp, rfl⟩ := mem x hx
    obtain ⟨q, hq, rfl⟩ := mem y hy
    rw [at_ p hp, at_ q hq]
    exact all p hp q hq
  · intro x hx
    obtain ⟨p, hp, rfl⟩ := mem x hx
    rw [at_ p hp]
    exact (hg _ (hK p hp).2).1
  · intro x hx
    obtain ⟨p, hp, rfl⟩ := mem x hx
    rw [at_ p hp]
    exact (hg _ (hK p hp).2).2
/-! ### slots that stay -/
def Keeps (T : List Nat) (B : SF) : Prop := ∀ ρ S, (∀ o S', B ρ S = .ok o S' → match o with
  | .nx ρ' => ρ'.length = ρ.length ∧ ∀ i, i ∉ T → ρ'[i]? = ρ[i]?
  | .ct ρ' => ρ'.length = ρ.length ∧ ∀ i, i ∉ T → ρ'[i]? = ρ[i]?
  | .bk ρ' => ρ'.length = ρ.length ∧ ∀ i, i ∉ T → ρ'[i]? = ρ[i]?
  | _ => True)
theorem keeps_nx {T : List Nat} : Keeps T sNx := fun ρ S o S' e => by cases e; exact ⟨rfl, fun _ _ => rfl⟩
theorem keeps_ret {T : List Nat} {E : EF} : Keeps T (sRet E) := fun ρ S o S' e => by
  unfold sRet at e
  cases h : E ρ S with
  | ok d S1 => rw [h] at e; cases e; trivial
  | exc x S1 => rw [h] at e; cases e
  | stuck => rw [h] at e; cases e
theorem keeps_if {T : List Nat} {t : TF} {B1 B2 : SF} (h1 : Keeps T B1) (h2 : Keeps T B2) : Keeps T (sIf t B1 B2) := fun ρ S o S' e => by
  unfold sIf at e
  cases h : t ρ S with
  | ok d S1 =>
    rw [h] at e
    simp only [Res.bind_ok] at e
    split at e
    · exact h1 ρ S1 o S' e
    · exact h2 ρ S1 o S' e
  | exc x S1 => rw [h] at e; cases e
  | stuck => rw [h] at e; cases e
theorem tgD_keep {t : Tg} {d : D} {ρ ρ1 : Env} (h : tgD t d ρ = some ρ1) : ρ1.length = ρ.length ∧ ∀ i, i ∉ t.slots → ρ1[i]? = ρ[i]? := by
  have key : ∀ (is : List Nat) (ds : List D) (ρ : Env), (setAll is ds ρ).length = ρ.length ∧ ∀ i, i ∉ is → (setAll is ds ρ)[i]? = ρ[i]? := by
    intro is
    induction is with
    | nil => intro ds ρ; simp [setAll]
    | cons j is ih =>
      intro ds ρ
      cases ds with
      | nil => simp [setAll]
      | cons d ds =>
        obtain ⟨a, c⟩ := ih ds (ρ.set j (some d))
        refine ⟨by rw [setAll, a]; simp, fun i hi => ?_⟩
        simp only [List.mem_cons, not_or] at hi
        rw [setAll, c i hi.2, List.getElem?_set_ne (Ne.symm hi.1)]
  unfold tgD at h
  split at h
  · cases h
    refine ⟨by simp, fun i hi => ?_⟩
    simp [Tg.slots] at hi
    exact List.getElem?_set_ne (Ne.symm hi)
  · split at h
    · cases h; exact key _ _ _
    · cases h
  · cases h
theorem keeps_for {T : List Nat} {it : IF} {t : Tg} {B : SF} (ht : ∀ i ∈ t.slots, i ∈ T) (hB : Keeps T B) : Keeps T (sFor it t B) := fun ρ S o S' e => by
  unfold sFor at e
  cases h : it ρ S with
  | exc x S1 => rw [h] at e; cases e
  | stuck => rw [h] at e; cases e
  | ok src S1 =>
    rw [h] at e
    simp only [Res.bind_ok] at e
    have key : ∀ (m i : Nat) (ρ0 : Env) (S0 : Store) (o : Out) (S' : Store), forF src.nxt t B m i ρ0 S0 = .ok o S' → match o with
        | .nx ρ' => ρ'.length = ρ0.length ∧ ∀ i, i ∉ T → ρ'[i]? = ρ0[i]?
        | .ct ρ' => ρ'.length = ρ0.length ∧ ∀ i, i ∉ T → ρ'[i]? = ρ0[i]?
        | .bk ρ' => ρ'.length = ρ0.length ∧ ∀ i, i ∉ T → ρ'[i]? = ρ0[i]?
        | _ => True := by
      intro m
      induction m with
      | zero => intro i ρ0 S0 o S' e; cases e
      | succ m ih =>
        intro i ρ0 S0 o S' e
        unfold forF at e
        split at e
        · cases e
        · cases e; exact ⟨rfl, fun _ _ => rfl⟩
        · split at e
          · cases e
          · rename_i ρ1 tg
            obtain ⟨k1, k2⟩ := tgD_keep tg
            have k3 : ∀ i, i ∉ T → ρ1[i]? = ρ0[i]? := fun i hi => k2 i fun z => hi (ht i z)
            cases hb : B ρ1 S0 with
            | exc x S2 => rw [hb] at e; cases e
            | stuck => rw [hb] at e; cases e
            | ok o1 S2 =>
              rw [hb] at e
              simp only [Res.bind_ok] at e
              have g := hB ρ1 S0 o1 S2 hb
              cases o1 with
              | nx ρ2 =>
                have f := ih (i + 1) ρ2 S2 o S' e
                cases o with
                | nx ρ3 => exact ⟨f.1.trans (g.1.trans k1), fun i hi => (f.2 i hi).trans ((g.2 i hi).trans (k3 i hi))⟩
                | ct ρ3 => exact ⟨f.1.trans (g.1.trans k1), fun i hi => (f.2 i hi).trans ((g.2 i hi).trans (k3 i hi))⟩
                | bk ρ3 => exact ⟨f.1.trans (g.1.trans k1), fun i hi => (f.2 i hi).trans ((g.2 i hi).trans (k3 i hi))⟩
                | ret d => trivial
                | xc x ρ => trivial
              | ct ρ2 =>
                have f := ih (i + 1) ρ2 S2 o S' e
                cases o with
                | nx ρ3 => exact ⟨f.1.trans (g.1.trans k1), fun i hi => (f.2 i hi).trans ((g.2 i hi).trans (k3 i hi))⟩
                | ct ρ3 => exact ⟨f.1.trans (g.1.trans k1), fun i hi => (f.2 i hi).trans ((g.2 i hi).trans (k3 i hi))⟩
                | bk ρ3 => exact ⟨f.1.trans (g.1.trans k1), fun i hi => (f.2 i hi).trans ((g.2 i hi).trans (k3 i hi))⟩
                | ret d => trivial
                | xc x ρ => trivial
              | bk ρ2 => cases e; exact ⟨g.1.trans k1, fun i hi => (g.2 i hi).trans (k3 i hi)⟩
              | ret d => cases e; trivial
              | xc x ρ2 => cases e; trivial
    exact key _ _ _ _ _ _ e
end Al

set_option Elab.async false
set_option linter.all false
set_option maxRecDepth 100000
set_option maxHeartbeats 4000000
namespace LK34
open PySem Al
def xRun : Xx := ⟨A_Stop, "message"⟩
def u_BREAKING : U := (.str [120])
def u_CAPITALS : U := (.str [65, 66, 67, 68, 69, 70, 71, 72, 73, 74, 75, 76, 77, 78, 79, 80, 81, 82, 83, 84, 85, 86, 87, 88, 89, 90])
def u_CHECK : U := (.str [99, 104, 101, 99, 107])
def u_DONE : U := (.str [100, 111, 110, 101])
def u_DROP : U := (.str [100, 114, 111, 112])
def u_EMPTY : U := (.str [101, 109, 112, 116, 121])
def u_FULL : U := (.str [102, 117, 108, 108])
def u_GIVE : U := (.str [103, 105, 118, 101])
def u_MOST_ASKED : U := (.int 6)
def u_MOST_IN_NAME : U := (.int 8)
def u_MOST_LEVELS : U := (.int 4)
def u_MOST_LONG : U := (.int 400)
def u_MOST_NAMES : U := (.int 12)
def u_MOST_PIECES : U := (.int 8)
def u_MOST_PLAIN : U := (.int 20)
def u_MOST_ROWS : U := (.int 40)
def u_ONE_SIGN : U := (.str [97])
def u_PLAIN_SIGNS : U := (.str [97, 98, 99, 100, 101, 102, 103, 104, 105, 106, 107, 108, 109, 110, 111, 112, 113, 114, 115, 116, 117, 118, 119, 120, 121, 122, 48, 49, 50, 51, 52, 53, 54, 55, 56, 57, 32, 95, 46, 47, 58, 61, 44, 64, 45])
def u_SET : U := (.str [115, 101, 116])
def u_SIGNS : U := (.tup ([[], [45], [58, 45], [43], [58, 43], [63], [58, 63], [61], [58, 61]].map U.str))
def u_STOPPED : U := (.str [115, 116, 111, 112, 112, 101, 100])
def u_UNSET : U := (.str [117, 110, 115, 101, 116])
def vB_is_name0 (s : Sy)  : VS :=
  (vSeq (vSIf (vTOr (vTNot (vT (vIsi isStr (vVar 0)))) (vTNot (vT (vChain (leV s) (leV s) (vC s (.int 1)) (vCall (lenV s) (vCons (vVar 0) vNil)) (vC s u_MOST_IN_NAME))))) (vRet (vC s (.bl false))) vNx)
    (vRet (vAnd (vOp (neV s) (vOp (ixV s) (vVar 0) (vC s (.int 0))) (vC s (.str [95]))) (vCall allV (vCons (vLc (vIt s (vVar 0)) (.nm 1) (fun _ => some true) (vOp (inV s) (vVar 1) (vOp (addV s) (vC s u_CAPITALS) (vC s (.str [95])))) [1]) vNil)))))
def V_is_name0 (s : Sy) : List U → Option U := vBody 2 (vB_is_name0 s)
theorem pu_is_name0 {s : Sy} {r : Txt → Txt} {b : Bool} (R : Rn s r) : Pu r b C_is_name (V_is_name0 s) := by
  unfold C_is_name
  exact pu_body (own' := []) (ss_seq (own1 := []) (ss_if (st_or (st_not (st_of (SP.l (sp_isi (SP.l (sp_var 0 (by decide))))))) (st_not (st_of (SP.l (sp_chain (ov_le R) (ov_le R) (SP.l (sp_c R rfl)) (SP.l (sp_call (cv_len R) (sal_cons (SP.l (sp_var 0 (by decide))) sal_nil))) (SP.l (sp_c R rfl))))))) (ss_ret (sp_c R rfl)) ss_nx)
    (ss_ret (sp_and (sp_op (ov_ne R) (SP.l (sp_op (ov_ix R) (SP.l (sp_var 0 (by decide))) (SP.l (sp_c R rfl)))) (SP.l (sp_c R rfl))) (sp_call cv_all (sal_cons (SP.l (sp_lc (si_val R (sp_var 0 (by decide))) (by decide) (by decide) st_yes (sp_op (ov_in R) (SP.l (sp_var 1 (by decide))) (SP.l (sp_op (ov_add R) (SP.l (sp_c R rfl)) (SP.l (sp_c R rfl))))))) sal_nil)))))
end LK34

set_option Elab.async false
set_option linter.all false
set_option maxRecDepth 100000
set_option maxHeartbeats 4000000
namespace LK34
open Al
theorem nm_true {y : Txt} (h : nmB y = true) : V_is_name0 s0 [.str y] = some (.bl true) := by
  unfold nmB at h
  simp only [Bool.and_eq_true, decide_eq_true_eq] at h
  obtain ⟨⟨⟨h1, h2⟩, h3⟩, h4⟩ := h
  have hL : y.length ≤ 16777216 := by omega
  have e1 : (1 : Int) ≤ y.length := by omega
  have e2 : (y.length : Int) ≤ 8 := by omega
  cases y with
  | nil => simp at h1
  | cons c l =>
    have hc : c ≠ 95 := by simpa using h3
    have key := vlc_map (t := .nm 1) (σ := [some (.str (c :: l)), none]) (el := vOp (inV s0) (vVar 1) (vOp (addV s0) (vC s0 u_CAPITALS) (vC s0 (.str [95])))) (fun _ => .bl true) ((c :: l).map fun c => U.str [c]) (by
      intro x hx
      obtain ⟨k, hk, rfl⟩ := List.mem_map.mp hx
      refine ⟨_, rfl, ?_⟩
      have := List.all_eq_true.mp h4 k hk
      simp [vOp, vVar, vC, u_CAPITALS, U.cst, addV, inV, inBV]
      simpa [nmCaps] using this)
    have hw : wipeV [some (U.str (c :: l)), none] [1] = [some (U.str (c :: l)), none] := rfl
    have hlen : ((c :: l).map fun c => U.str [c]).length ≤ 1000000 := by simp at hL h2 ⊢; omega
    have hm : mapO asBlU (((c :: l).map fun c => U.str [c]).map fun _ => U.bl true) = some (((c :: l).map fun _ => true)) := by
      generalize (c :: l) = q
      induction q with
      | nil => rfl
      | cons a q ih => simp [mapO, asBlU] at ih ⊢; rw [ih]
    have hall : vLc (vIt s0 (vVar 0)) (.nm 1) (fun _ => some true) (vOp (inV s0) (vVar 1) (vOp (addV s0) (vC s0 u_CAPITALS) (vC s0 (.str [95])))) [1] [some (.str (c :: l)), none] = some (.lst (((c :: l).map fun c => U.str [c]).map fun _ => U.bl true)) := by
      unfold vLc
      have : vIt s0 (vVar 0) [some (.str (c :: l)), none] = some ((c :: l).map fun c => U.str [c]) := by simp [vIt, vVar, itemsU]
      rw [this, Option.bind_some, if_pos hlen, hw, key]
      rfl
    have hcall : vCall allV (vCons (vLc (vIt s0 (vVar 0)) (.nm 1) (fun _ => some true) (vOp (inV s0) (vVar 1) (vOp (addV s0) (vC s0 u_CAPITALS) (vC s0 (.str [95])))) [1]) vNil) [some (.str (c :: l)), none] = some (.bl true) := by
      unfold vCall vCons
      rw [hall]
      simp only [Option.bind_some, vNil, allV, hm, Option.map_some]
      simp
    have e3 : (1 : Int) ≤ ((c :: l).length : Nat) := e1
    have e4 : (((c :: l).length : Nat) : Int) ≤ 8 := e2
    have hA : L2.atI (c :: l) 0 = some c := by simp [L2.atI, L2.ixN]
    unfold V_is_name0 vB_is_name0 vBody vSeq
    simp only [List.map_cons, List.map_nil, List.length_cons, List.length_nil, List.replicate, Nat.reduceSub, Nat.reduceAdd, List.cons_append, List.nil_append]
    have hif : vSIf (vTOr (vTNot (vT (vIsi isStr (vVar 0)))) (vTNot (vT (vChain (leV s0) (leV s0) (vC s0 (.int 1)) (vCall (lenV s0) (vCons (vVar 0) vNil)) (vC s0 u_MOST_IN_NAME))))) (vRet (vC s0 (.bl false))) vNx [some (.str (c :: l)), none] = some (.nx [some (.str (c :: l)), none]) := by
      have hL' : (c :: l).length ≤ lim := hL
      have q1 : decide ((1 : Int) ≤ ((c :: l).length : Nat)) = true := by simpa using e3
      have q2 : decide ((((c :: l).length : Nat) : Int) ≤ 8) = true := by simpa using e4
      have l1 : vCall (lenV s0) (vCons (vVar 0) vNil) [some (.str (c :: l)), none] = some (.int ((c :: l).length : Nat)) := by
        simp only [vCall, vCons, vVar, vNil, List.getElem?_cons_zero, Option.bind_some, lenV, free0, Bool.true_and, decide_eq_true hL', if_true]
      have l2 : vChain (leV s0) (leV s0) (vC s0 (.int 1)) (vCall (lenV s0) (vCons (vVar 0) vNil)) (vC s0 u_MOST_IN_NAME) [some (.str (c :: l)), none] = some (.bl true) := by
        unfold vChain
        rw [l1]
        simp only [vC, U.cst, u_MOST_IN_NAME, if_true, Option.bind_some, leV, q1, q2]
      simp only [vSIf, vTOr, vTNot, vT, vIsi, l2, Option.bind_some, vAsB]
      simp [vVar, kdU, isStr, vNx, vAsB]
    have hne : vOp (neV s0) (vOp (ixV s0) (vVar 0) (vC s0 (.int 0))) (vC s0 (.str [95])) [some (.str (c :: l)), none] = some (.bl true) := by
      have hL' : (c :: l).length ≤ lim := hL
      have hcc : c < 1114112 := by
        have := List.all_eq_true.mp h4 c List.mem_cons_self
        simp [nmCaps] at this
        omega
      have hk : okU s0 60 (.str [c]) = true := by simp [okU, okS, strsOk, hcc]
      simp only [vOp, vVar, vC, U.cst, List.getElem?_cons_zero, Option.bind_some, if_true, free0, ixV, Bool.true_and, decide_eq_true hL', hA, neV, hk, show okU s0 60 (.str [95]) = true from rfl, Bool.and_self]
      simp [eqU, hc]
    rw [hif]
    simp only [Option.bind_some, vRet, vAnd, hne, hcall]
/-- names that are renamed are names -/
def V_is_name (s : Sy) (us : List U) : Option U := match us with
  | [.str x] => if s.K0.contains x then some (.bl true) else V_is_name0 s us
  | _ => V_is_name0 s us
theorem pu_is_name {s : Sy} {r : Txt → Txt} {b : Bool} (R : Rn s r) : Pu r b C_is_name (V_is_name s) := fun L h S us ds u lk nl hb hs e => by
  unfold V_is_name at e
  split at e
  · rename_i x
    split at e
    · rename_i q
      cases e
      obtain ⟨d, w, rfl, k1, k2⟩ := hs.cons_iff
      rw [k2.nil_iff]
      obtain rfl := rep_str.mp k1
      obtain ⟨d, S', e1, e2, e3⟩ := pu_is_name0 (b := b) rn0 L h S [.str (r x)] [.str (r x)] (.bl true) lk nl hb (.cons (rep_str.mpr rfl) .nil) (nm_true (R.nm x (by simpa using q)))
      exact ⟨d, S', e1, e2, rep_bl.mpr (rep_bl.mp e3)⟩
    · exact pu_is_name0 R L h S _ ds u lk nl hb hs e
  · exact pu_is_name0 R L h S _ ds u lk nl hb hs e
end LK34

set_option Elab.async false
set_option linter.all false
set_option maxRecDepth 100000
set_option maxHeartbeats 4000000
namespace LK34
open PySem Al
def vB_is_plain (s : Sy)  : VS :=
  (vSeq (vSIf (vTOr (vTNot (vT (vIsi isStr (vVar 0)))) (vTNot (vT (vChain (leV s) (leV s) (vC s (.int 1)) (vCall (lenV s) (vCons (vVar 0) vNil)) (vC s u_MOST_PLAIN))))) (vRet (vC s (.bl false))) vNx)
    (vRet (vCall allV (vCons (vLc (vIt s (vVar 0)) (.nm 1) (fun _ => some true) (vOp (inV s) (vVar 1) (vC s u_PLAIN_SIGNS)) [1]) vNil))))
def V_is_plain (s : Sy) : List U → Option U := vBody 2 (vB_is_plain s)
theorem pu_is_plain {s : Sy} {r : Txt → Txt} {b : Bool} (R : Rn s r) : Pu r b C_is_plain (V_is_plain s) := by
  unfold C_is_plain
  exact pu_body (own' := []) (ss_seq (own1 := []) (ss_if (st_or (st_not (st_of (SP.l (sp_isi (SP.l (sp_var 0 (by decide))))))) (st_not (st_of (SP.l (sp_chain (ov_le R) (ov_le R) (SP.l (sp_c R rfl)) (SP.l (sp_call (cv_len R) (sal_cons (SP.l (sp_var 0 (by decide))) sal_nil))) (SP.l (sp_c R rfl))))))) (ss_ret (sp_c R rfl)) ss_nx)
    (ss_ret (sp_call cv_all (sal_cons (SP.l (sp_lc (si_val R (sp_var 0 (by decide))) (by decide) (by decide) st_yes (sp_op (ov_in R) (SP.l (sp_var 1 (by decide))) (SP.l (sp_c R rfl))))) sal_nil))))
def vB_is_part (s : Sy) (r_is_part : List U → Option U) (r_is_text_of : List U → Option U) : VS :=
  (vSeq (vSIf (vTOr (vTNot (vT (vIsi isTup (vVar 0)))) (vTOr (vT (vOp (neV s) (vCall (lenV s) (vCons (vVar 0) vNil)) (vC s (.int 3)))) (vTNot (vT (vCallD (V_is_name s) (vCons (vOp (ixV s) (vVar 0) (vC s (.int 0))) vNil)))))) (vRet (vC s (.bl false))) vNx)
    (vSeq (vSIf (vTOr (vTNot (vT (vIsi isStr (vOp (ixV s) (vVar 0) (vC s (.int 1)))))) (vT (vOp (notInV s) (vOp (ixV s) (vVar 0) (vC s (.int 1))) (vC s u_SIGNS)))) (vRet (vC s (.bl false))) vNx)
    (vSeq (vSIf (vT (vOp (eqV s) (vOp (ixV s) (vVar 0) (vC s (.int 1))) (vC s (.str [])))) (vRet (vAnd (vIsi isTup (vOp (ixV s) (vVar 0) (vC s (.int 2)))) (vOp (eqV s) (vCall (lenV s) (vCons (vOp (ixV s) (vVar 0) (vC s (.int 2))) vNil)) (vC s (.int 0))))) vNx)
    (vRet (vAnd (vOp (gtV s) (vVar 1) (vC s (.int 0))) (vCallD r_is_text_of (vCons (vOp (ixV s) (vVar 0) (vC s (.int 2))) (vCons (vVar 1) vNil))))))))
def vB_is_text_of (s : Sy) (r_is_part : List U → Option U) (r_is_text_of : List U → Option U) : VS :=
  (vSeq (vSIf (vTOr (vTNot (vT (vIsi isTup (vVar 0)))) (vT (vOp (gtV s) (vCall (lenV s) (vCons (vVar 0) vNil)) (vC s u_MOST_PIECES)))) (vRet (vC s (.bl false))) vNx)
    (vSeq (vFor (vEn s (vVar 0)) (.tp [2, 3]) (vSeq (vSIf (vTAnd (vTNot (vT (vCallD (V_is_plain s) (vCons (vVar 3) vNil)))) (vTNot (vT (vCallD r_is_part (vCons (vVar 3) (vCons (vOp subV (vVar 1) (vC s (.int 1))) vNil)))))) (vRet (vC s (.bl false))) vNx)
    (vSIf (vTAnd (vT (vOp (gtV s) (vVar 2) (vC s (.int 0)))) (vTAnd (vT (vIsi isStr (vVar 3))) (vT (vIsi isStr (vOp (ixV s) (vVar 0) (vOp subV (vVar 2) (vC s (.int 1)))))))) (vRet (vC s (.bl false))) vNx)))
    (vRet (vC s (.bl true)))))
mutual
def V_is_part (s : Sy) : Nat → List U → Option U
  | 0 => fun _ => none
  | n + 1 => vBody 2 (vB_is_part s (V_is_part s n) (V_is_text_of s n))
def V_is_text_of (s : Sy) : Nat → List U → Option U
  | 0 => fun _ => none
  | n + 1 => vBody 4 (vB_is_text_of s (V_is_part s n) (V_is_text_of s n))
end
theorem pug_is_part {s : Sy} {r : Txt → Txt} {b : Bool} (R : Rn s r) : ∀ n : Nat, Pu r b (C_is_part n) (V_is_part s n) ∧ Pu r b (C_is_text_of n) (V_is_text_of s n)
  | 0 => ⟨pu_zero, pu_zero⟩
  | n + 1 => by
    obtain ⟨h_is_part, h_is_text_of⟩ := pug_is_part (b := b) R n
    exact ⟨pu_body (own' := []) (ss_seq (own1 := []) (ss_if (st_or (st_not (st_of (SP.l (sp_isi (SP.l (sp_var 0 (by decide))))))) (st_or (st_of (SP.l (sp_op (ov_ne R) (SP.l (sp_call (cv_len R) (sal_cons (SP.l (sp_var 0 (by decide))) sal_nil))) (SP.l (sp_c R rfl))))) (st_not (st_of (SP.l (sp_callD (pu_is_name R) (sa_cons (sp_op (ov_ix R) (SP.l (sp_var 0 (by decide))) (SP.l (sp_c R rfl))) sa_nil))))))) (ss_ret (sp_c R rfl)) ss_nx)
    (ss_seq (own1 := []) (ss_if (st_or (st_not (st_of (SP.l (sp_isi (SP.l (sp_op (ov_ix R) (SP.l (sp_var 0 (by decide))) (SP.l (sp_c R rfl)))))))) (st_of (SP.l (sp_op (ov_notIn R) (SP.l (sp_op (ov_ix R) (SP.l (sp_var 0 (by decide))) (SP.l (sp_c R rfl)))) (SP.l (sp_c R rfl)))))) (ss_ret (sp_c R rfl)) ss_nx)
    (ss_seq (own1 := []) (ss_if (st_of (SP.l (sp_op (ov_eq R) (SP.l (sp_op (ov_ix R) (SP.l (sp_var 0 (by decide))) (SP.l (sp_c R rfl)))) (SP.l (sp_c R rfl))))) (ss_ret (sp_and (sp_isi (SP.l (sp_op (ov_ix R) (SP.l (sp_var 0 (by decide))) (SP.l (sp_c R rfl))))) (sp_op (ov_eq R) (SP.l (sp_call (cv_len R) (sal_cons (SP.l (sp_op (ov_ix R) (SP.l (sp_var 0 (by decide))) (SP.l (sp_c R rfl)))) sal_nil))) (SP.l (sp_c R rfl))))) ss_nx)
    (ss_ret (sp_and (sp_op (ov_gt R) (SP.l (sp_var 1 (by decide))) (SP.l (sp_c R rfl))) (sp_callD h_is_text_of (sa_cons (sp_op (ov_ix R) (SP.l (sp_var 0 (by decide))) (SP.l (sp_c R rfl))) (sa_cons (sp_var 1 (by decide)) sa_nil)))))))), pu_body (own' := []) (ss_seq (own1 := []) (ss_if (st_or (st_not (st_of (SP.l (sp_isi (SP.l (sp_var 0 (by decide))))))) (st_of (SP.l (sp_op (ov_gt R) (SP.l (sp_call (cv_len R) (sal_cons (SP.l (sp_var 0 (by decide))) sal_nil))) (SP.l (sp_c R rfl)))))) (ss_ret (sp_c R rfl)) ss_nx)
    (ss_seq (own1 := []) (ss_for (t := (.tp [2, 3])) (si_en R (sp_var 0 (by decide))) (by decide) (ss_seq (own1 := []) (ss_if (st_and (st_not (st_of (SP.l (sp_callD (pu_is_plain R) (sa_cons (sp_var 3 (by decide)) sa_nil))))) (st_not (st_of (SP.l (sp_callD h_is_part (sa_cons (sp_var 3 (by decide)) (sa_cons (sp_op ov_sub (SP.l (sp_var 1 (by decide))) (SP.l (sp_c R rfl))) sa_nil))))))) (ss_ret (sp_c R rfl)) ss_nx)
    (ss_if (st_and (st_of (SP.l (sp_op (ov_gt R) (SP.l (sp_var 2 (by decide))) (SP.l (sp_c R rfl))))) (st_and (st_of (SP.l (sp_isi (SP.l (sp_var 3 (by decide)))))) (st_of (SP.l (sp_isi (SP.l (sp_op (ov_ix R) (SP.l (sp_var 0 (by decide))) (SP.l (sp_op ov_sub (SP.l (sp_var 2 (by decide))) (SP.l (sp_c R rfl))))))))))) (ss_ret (sp_c R rfl)) ss_nx)))
    (ss_ret (sp_c R rfl))))⟩
theorem pu_is_part {s : Sy} {r : Txt → Txt} {b : Bool} (R : Rn s r) (n : Nat) : Pu r b (C_is_part n) (V_is_part s n) := (pug_is_part R n).1
theorem pu_is_text_of {s : Sy} {r : Txt → Txt} {b : Bool} (R : Rn s r) (n : Nat) : Pu r b (C_is_text_of n) (V_is_text_of s n) := (pug_is_part R n).2
def vB_is_text (s : Sy)  : VS :=
  (vRet (vCallD (V_is_text_of s 8) (vCons (vVar 0) (vCons (vC s u_MOST_LEVELS) vNil))))
def V_is_text (s : Sy) : List U → Option U := vBody 1 (vB_is_text s)
theorem pu_is_text {s : Sy} {r : Txt → Txt} {b : Bool} (R : Rn s r) : Pu r b C_is_text (V_is_text s) := by
  unfold C_is_text
  exact pu_body (own' := []) (ss_ret (sp_callD (pu_is_text_of R 8) (sa_cons (sp_var 0 (by decide)) (sa_cons (sp_c R rfl) sa_nil))))
def vB_is_row (s : Sy)  : VS :=
  (vSeq (vSIf (vTOr (vTNot (vT (vIsi isTup (vVar 0)))) (vTOr (vT (vOp (eqV s) (vCall (lenV s) (vCons (vVar 0) vNil)) (vC s (.int 0)))) (vTNot (vT (vIsi isStr (vOp (ixV s) (vVar 0) (vC s (.int 0)))))))) (vRet (vC s (.bl false))) vNx)
    (vSeq (vSIf (vT (vOp (inV s) (vOp (ixV s) (vVar 0) (vC s (.int 0))) (vTup (vCons (vC s u_SET) (vCons (vC s u_GIVE) vNil))))) (vRet (vAnd (vOp (eqV s) (vCall (lenV s) (vCons (vVar 0) vNil)) (vC s (.int 3))) (vAnd (vCallD (V_is_name s) (vCons (vOp (ixV s) (vVar 0) (vC s (.int 1))) vNil)) (vCallD (V_is_text s) (vCons (vOp (ixV s) (vVar 0) (vC s (.int 2))) vNil))))) vNx)
    (vSeq (vSIf (vT (vOp (eqV s) (vOp (ixV s) (vVar 0) (vC s (.int 0))) (vC s u_DROP))) (vRet (vAnd (vOp (eqV s) (vCall (lenV s) (vCons (vVar 0) vNil)) (vC s (.int 2))) (vCallD (V_is_name s) (vCons (vOp (ixV s) (vVar 0) (vC s (.int 1))) vNil)))) vNx)
    (vRet (vAnd (vOp (eqV s) (vOp (ixV s) (vVar 0) (vC s (.int 0))) (vC s u_CHECK)) (vAnd (vOp (eqV s) (vCall (lenV s) (vCons (vVar 0) vNil)) (vC s (.int 2))) (vCallD (V_is_text s) (vCons (vOp (ixV s) (vVar 0) (vC s (.int 1))) vNil))))))))
def V_is_row (s : Sy) : List U → Option U := vBody 1 (vB_is_row s)
theorem pu_is_row {s : Sy} {r : Txt → Txt} {b : Bool} (R : Rn s r) : Pu r b C_is_row (V_is_row s) := by
  unfold C_is_row
  exact pu_body (own' := []) (ss_seq (own1 := []) (ss_if (st_or (st_not (st_of (SP.l (sp_isi (SP.l (sp_var 0 (by decide))))))) (st_or (st_of (SP.l (sp_op (ov_eq R) (SP.l (sp_call (cv_len R) (sal_cons (SP.l (sp_var 0 (by decide))) sal_nil))) (SP.l (sp_c R rfl))))) (st_not (st_of (SP.l (sp_isi (SP.l (sp_op (ov_ix R) (SP.l (sp_var 0 (by decide))) (SP.l (sp_c R rfl)))))))))) (ss_ret (sp_c R rfl)) ss_nx)
    (ss_seq (own1 := []) (ss_if (st_of (SP.l (sp_op (ov_in R) (SP.l (sp_op (ov_ix R) (SP.l (sp_var 0 (by decide))) (SP.l (sp_c R rfl)))) (SP.l (sp_tup (sa_cons (sp_c R rfl) (sa_cons (sp_c R rfl) sa_nil))))))) (ss_ret (sp_and (sp_op (ov_eq R) (SP.l (sp_call (cv_len R) (sal_cons (SP.l (sp_var 0 (by decide))) sal_nil))) (SP.l (sp_c R rfl))) (sp_and (sp_callD (pu_is_name R) (sa_cons (sp_op (ov_ix R) (SP.l (sp_var 0 (by decide))) (SP.l (sp_c R rfl))) sa_nil)) (sp_callD (pu_is_text R) (sa_cons (sp_op (ov_ix R) (SP.l (sp_var 0 (by decide))) (SP.l (sp_c R rfl))) sa_nil))))) ss_nx)
    (ss_seq (own1 := []) (ss_if (st_of (SP.l (sp_op (ov_eq R) (SP.l (sp_op (ov_ix R) (SP.l (sp_var 0 (by decide))) (SP.l (sp_c R rfl)))) (SP.l (sp_c R rfl))))) (ss_ret (sp_and (sp_op (ov_eq R) (SP.l (sp_call (cv_len R) (sal_cons (SP.l (sp_var 0 (by decide))) sal_nil))) (SP.l (sp_c R rfl))) (sp_callD (pu_is_name R) (sa_cons (sp_op (ov_ix R) (SP.l (sp_var 0 (by decide))) (SP.l (sp_c R rfl))) sa_nil)))) ss_nx)
    (ss_ret (sp_and (sp_op (ov_eq R) (SP.l (sp_op (ov_ix R) (SP.l (sp_var 0 (by decide))) (SP.l (sp_c R rfl)))) (SP.l (sp_c R rfl))) (sp_and (sp_op (ov_eq R) (SP.l (sp_call (cv_len R) (sal_cons (SP.l (sp_var 0 (by decide))) sal_nil))) (SP.l (sp_c R rfl))) (sp_callD (pu_is_text R) (sa_cons (sp_op (ov_ix R) (SP.l (sp_var 0 (by decide))) (SP.l (sp_c R rfl))) sa_nil))))))))
def vB_text_of_row (s : Sy)  : VS :=
  (vRet (vIf (vT (vOp (eqV s) (vOp (ixV s) (vVar 0) (vC s (.int 0))) (vC s u_DROP))) (vTup vNil) (vOp (ixV s) (vVar 0) (vNeg (vC s (.int 1))))))
def V_text_of_row (s : Sy) : List U → Option U := vBody 1 (vB_text_of_row s)
theorem pu_text_of_row {s : Sy} {r : Txt → Txt} {b : Bool} (R : Rn s r) : Pu r b C_text_of_row (V_text_of_row s) := by
  unfold C_text_of_row
  exact pu_body (own' := []) (ss_ret (sp_if (st_of (SP.l (sp_op (ov_eq R) (SP.l (sp_op (ov_ix R) (SP.l (sp_var 0 (by decide))) (SP.l (sp_c R rfl)))) (SP.l (sp_c R rfl))))) (sp_tup sa_nil) (sp_op (ov_ix R) (SP.l (sp_var 0 (by decide))) (SP.l (sp_neg (sp_c R rfl))))))
def vB_names_in_text (s : Sy) (r_names_in_text : List U → Option U) : VS :=
  (vSeq (vSetO 1 (vLst vNil))
    (vSeq (vFor (vIt s (vVar 0)) (.nm 2) (vSIf (vT (vIsi isTup (vVar 2))) (vSeq (vApp 1 (vOp (ixV s) (vVar 2) (vC s (.int 0))))
    (vExt 1 (vCallD r_names_in_text (vCons (vOp (ixV s) (vVar 2) (vC s (.int 2))) vNil)))) vNx))
    (vRet (vVar 1))))
mutual
def V_names_in_text (s : Sy) : Nat → List U → Option U
  | 0 => fun _ => none
  | n + 1 => vBody 3 (vB_names_in_text s (V_names_in_text s n))
end
theorem pug_names_in_text {s : Sy} {r : Txt → Txt} {b : Bool} (R : Rn s r) : ∀ n : Nat, Pu r b (C_names_in_text n) (V_names_in_text s n)
  | 0 => pu_zero
  | n + 1 => by
    have h_names_in_text := pug_names_in_text (b := b) R n
    exact pu_body (own' := []) (ss_seq (own1 := [1]) (ss_own 1 (by decide) (sf_lst sa_nil))
    (ss_seq (own1 := [1]) (ss_for (t := (.nm 2)) (si_val R (sp_var 0 (by decide))) (by decide) (ss_if (st_of (SP.l (sp_isi (SP.l (sp_var 2 (by decide)))))) (ss_seq (own1 := [1]) (ss_app 1 (by decide) (sp_op (ov_ix R) (SP.l (sp_var 2 (by decide))) (SP.l (sp_c R rfl))))
    (ss_ext 1 (by decide) (SP.l (sp_callD h_names_in_text (sa_cons (sp_op (ov_ix R) (SP.l (sp_var 2 (by decide))) (SP.l (sp_c R rfl))) sa_nil))))) ss_nx))
    (ss_retv 1)))
theorem pu_names_in_text {s : Sy} {r : Txt → Txt} {b : Bool} (R : Rn s r) (n : Nat) : Pu r b (C_names_in_text n) (V_names_in_text s n) := (pug_names_in_text R n)
def vB_names_in (s : Sy)  : VS :=
  (vSeq (vSetO 1 (vLc (vIt s (vVar 0)) (.nm 2) (vT (vOp (neV s) (vOp (ixV s) (vVar 2) (vC s (.int 0))) (vC s u_CHECK))) (vOp (ixV s) (vVar 2) (vC s (.int 1))) [2]))
    (vSeq (vFor (vIt s (vVar 0)) (.nm 2) (vExt 1 (vCallD (V_names_in_text s 8) (vCons (vCallD (V_text_of_row s) (vCons (vVar 2) vNil)) vNil))))
    (vRet (vSortSet s (vVar 1)))))
def V_names_in (s : Sy) : List U → Option U := vBody 3 (vB_names_in s)
theorem pu_names_in {s : Sy} {r : Txt → Txt} {b : Bool} (R : Rn s r) : Pu r b C_names_in (V_names_in s) := by
  unfold C_names_in
  exact pu_body (own' := []) (ss_seq (own1 := [1]) (ss_own 1 (by decide) (sf_lc (si_val R (sp_var 0 (by decide))) (by decide) (by decide) (st_of (SP.l (sp_op (ov_ne R) (SP.l (sp_op (ov_ix R) (SP.l (sp_var 2 (by decide))) (SP.l (sp_c R rfl)))) (SP.l (sp_c R rfl))))) (sp_op (ov_ix R) (SP.l (sp_var 2 (by decide))) (SP.l (sp_c R rfl)))))
    (ss_seq (own1 := [1]) (ss_for (t := (.nm 2)) (si_val R (sp_var 0 (by decide))) (by decide) (ss_ext 1 (by decide) (SP.l (sp_callD (pu_names_in_text R 8) (sa_cons (sp_callD (pu_text_of_row R) (sa_cons (sp_var 2 (by decide)) sa_nil)) sa_nil)))))
    (ss_ret (sp_sortSet R (sl_var 1)))))
def vB_need_file (s : Sy)  : VS :=
  (vSeq (vSIf (vTOr (vTNot (vT (vIsi isTup (vVar 0)))) (vT (vOp (gtV s) (vCall (lenV s) (vCons (vVar 0) vNil)) (vC s u_MOST_ROWS)))) vNever vNx)
    (vSeq (vFor (vEn s (vVar 0)) (.tp [1, 2]) (vSIf (vTNot (vT (vCallD (V_is_row s) (vCons (vVar 2) vNil)))) vNever vNx))
    (vSeq (vSIf (vT (vOp (gtV s) (vCall (lenV s) (vCons (vCallD (V_names_in s) (vCons (vVar 0) vNil)) vNil)) (vC s u_MOST_NAMES))) vNever vNx)
    (vRet (vVar 0)))))
def V_need_file (s : Sy) : List U → Option U := vBody 3 (vB_need_file s)
theorem pu_need_file {s : Sy} {r : Txt → Txt} {b : Bool} (R : Rn s r) : Pu r b C_need_file (V_need_file s) := by
  unfold C_need_file
  exact pu_body (own' := []) (ss_seq (own1 := []) (ss_if (st_or (st_not (st_of (SP.l (sp_isi (SP.l (sp_var 0 (by decide))))))) (st_of (SP.l (sp_op (ov_gt R) (SP.l (sp_call (cv_len R) (sal_cons (SP.l (sp_var 0 (by decide))) sal_nil))) (SP.l (sp_c R rfl)))))) ss_none ss_nx)
    (ss_seq (own1 := []) (ss_for (t := (.tp [1, 2])) (si_en R (sp_var 0 (by decide))) (by decide) (ss_if (st_not (st_of (SP.l (sp_callD (pu_is_row R) (sa_cons (sp_var 2 (by decide)) sa_nil))))) ss_none ss_nx))
    (ss_seq (own1 := []) (ss_if (st_of (SP.l (sp_op (ov_gt R) (SP.l (sp_call (cv_len R) (sal_cons (SP.l (sp_callD (pu_names_in R) (sa_cons (sp_var 0 (by decide)) sa_nil))) sal_nil))) (SP.l (sp_c R rfl))))) ss_none ss_nx)
    (ss_ret (sp_var 0 (by decide))))))
def vB_kind_of (s : Sy)  : VS :=
  (vRet (vSl s (vVar 0) (vpSome (vNeg (vC s (.int 1)))) vpNone))
def V_kind_of (s : Sy) : List U → Option U := vBody 1 (vB_kind_of s)
theorem pu_kind_of {s : Sy} {r : Txt → Txt} {b : Bool} (R : Rn s r) : Pu r b C_kind_of (V_kind_of s) := by
  unfold C_kind_of
  exact pu_body (own' := []) (ss_ret (sp_sl R (SP.l (sp_var 0 (by decide))) (so_some (sp_neg (sp_c R rfl))) so_none))
def vB_is_hard (s : Sy)  : VS :=
  (vRet (vOp (eqV s) (vSl s (vVar 0) vpNone (vpSome (vC s (.int 1)))) (vC s (.str [58]))))
def V_is_hard (s : Sy) : List U → Option U := vBody 1 (vB_is_hard s)
theorem pu_is_hard {s : Sy} {r : Txt → Txt} {b : Bool} (R : Rn s r) : Pu r b C_is_hard (V_is_hard s) := by
  unfold C_is_hard
  exact pu_body (own' := []) (ss_ret (sp_op (ov_eq R) (SP.l (sp_sl R (SP.l (sp_var 0 (by decide))) so_none (so_some (sp_c R rfl)))) (SP.l (sp_c R rfl))))
def vB_all_names (s : Sy)  : VS :=
  (vSeq (vSetO 2 (vCall listV (vCons (vVar 1) vNil)))
    (vSeq (vFor (vIt s (vVar 0)) (.nm 3) (vExt 2 (vCallD (V_names_in s) (vCons (vVar 3) vNil))))
    (vSeq (vSIf (vT (vOp (gtV s) (vLenSet (vVar 2)) (vC s u_MOST_ASKED))) vNever vNx)
    (vRet (vCall tupleV (vCons (vSortSet s (vVar 2)) vNil))))))
def V_all_names (s : Sy) : List U → Option U := vBody 4 (vB_all_names s)
theorem pu_all_names {s : Sy} {r : Txt → Txt} {b : Bool} (R : Rn s r) : Pu r b C_all_names (V_all_names s) := by
  unfold C_all_names
  exact pu_body (own' := []) (ss_seq (own1 := [2]) (ss_own 2 (by decide) (sf_list (sal_cons (SP.l (sp_var 1 (by decide))) sal_nil)))
    (ss_seq (own1 := [2]) (ss_for (t := (.nm 3)) (si_val R (sp_var 0 (by decide))) (by decide) (ss_ext 2 (by decide) (SP.l (sp_callD (pu_names_in R) (sa_cons (sp_var 3 (by decide)) sa_nil)))))
    (ss_seq (own1 := [2]) (ss_if (st_of (SP.l (sp_op (ov_gt R) (SP.l (sp_lenSet R (sl_var 2))) (SP.l (sp_c R rfl))))) ss_none ss_nx)
    (ss_ret (sp_call cv_tuple (sal_cons (SP.l (sp_sortSet R (sl_var 2))) sal_nil))))))
def vB_all_cases (s : Sy)  : VS :=
  (vSeq (vSet 1 (vLst (vCons (vTup vNil) vNil)))
    (vSeq (vFor (vIt s (vVar 0)) (.nm 2) (vSet 1 (vLc2 (vIt s (vVar 1)) (.nm 3) (fun _ => some true) (vIt s (vTup (vCons (vC s u_UNSET) (vCons (vC s u_EMPTY) (vCons (vC s u_FULL) vNil))))) (.nm 4) (fun _ => some true) (vOp (addV s) (vVar 3) (vTup (vCons (vTup (vCons (vVar 2) (vCons (vVar 4) vNil))) vNil))) [3, 4] [4])))
    (vRet (vVar 1))))
def V_all_cases (s : Sy) : List U → Option U := vBody 5 (vB_all_cases s)
theorem pu_all_cases {s : Sy} {r : Txt → Txt} {b : Bool} (R : Rn s r) : Pu r b C_all_cases (V_all_cases s) := by
  unfold C_all_cases
  exact pu_body (own' := []) (ss_seq (own1 := []) (ss_set 1 (by decide) (sp_lst (sa_cons (sp_tup sa_nil) sa_nil)))
    (ss_seq (own1 := []) (ss_for (t := (.nm 2)) (si_val R (sp_var 0 (by decide))) (by decide) (ss_set 1 (by decide) (sp_lc2 (si_val R (sp_var 1 (by decide))) (by decide) (by decide) (by decide) (by decide) st_yes (si_val R (sp_tup (sa_cons (sp_c R rfl) (sa_cons (sp_c R rfl) (sa_cons (sp_c R rfl) sa_nil))))) st_yes (sp_op (ov_add R) (SP.l (sp_var 3 (by decide))) (SP.l (sp_tup (sa_cons (sp_tup (sa_cons (sp_var 2 (by decide)) (sa_cons (sp_var 4 (by decide)) sa_nil))) sa_nil)))))))
    (ss_ret (sp_var 1 (by decide)))))
def vB_begun (s : Sy)  : VS :=
  (vRet (vDc (vIt s (vVar 0)) (.tp [1, 2]) (vT (vOp (neV s) (vVar 2) (vC s u_UNSET))) (vVar 1) (vIf (vT (vOp (eqV s) (vVar 2) (vC s u_EMPTY))) (vTup vNil) (vTup (vCons (vTup (vCons (vVar 1) vNil)) vNil))) [1, 2]))
def V_begun (s : Sy) : List U → Option U := vBody 3 (vB_begun s)
theorem pu_begun {s : Sy} {r : Txt → Txt} {b : Bool} (R : Rn s r) : Pu r b C_begun (V_begun s) := by
  unfold C_begun
  exact pu_body (own' := []) (ss_ret (sp_dc R (si_val R (sp_var 0 (by decide))) (by decide) (by decide) (st_of (SP.l (sp_op (ov_ne R) (SP.l (sp_var 2 (by decide))) (SP.l (sp_c R rfl))))) (sp_var 1 (by decide)) (sp_if (st_of (SP.l (sp_op (ov_eq R) (SP.l (sp_var 2 (by decide))) (SP.l (sp_c R rfl))))) (sp_tup sa_nil) (sp_tup (sa_cons (sp_tup (sa_cons (sp_var 1 (by decide)) sa_nil)) sa_nil)))))
def vB_length_of (s : Sy)  : VS :=
  (vRet (vCall sumV (vCons (vLc (vIt s (vVar 0)) (.nm 1) (fun _ => some true) (vCall (lenV s) (vCons (vVar 1) vNil)) [1]) vNil)))
def V_length_of (s : Sy) : List U → Option U := vBody 2 (vB_length_of s)
theorem pu_length_of {s : Sy} {r : Txt → Txt} {b : Bool} (R : Rn s r) : Pu r b C_length_of (V_length_of s) := by
  unfold C_length_of
  exact pu_body (own' := []) (ss_ret (sp_call cv_sum (sal_cons (SP.l (sp_lc (si_val R (sp_var 0 (by decide))) (by decide) (by decide) st_yes (sp_call (cv_len R) (sal_cons (SP.l (sp_var 1 (by decide))) sal_nil)))) sal_nil)))
def vB_put_together (s : Sy)  : VS :=
  (vSeq (vSIf (vTAnd (vT (vOp (gtV s) (vCall (lenV s) (vCons (vVar 0) vNil)) (vC s (.int 0)))) (vTAnd (vT (vOp (gtV s) (vCall (lenV s) (vCons (vVar 1) vNil)) (vC s (.int 0)))) (vTAnd (vT (vIsi isStr (vOp (ixV s) (vVar 0) (vNeg (vC s (.int 1)))))) (vT (vIsi isStr (vOp (ixV s) (vVar 1) (vC s (.int 0)))))))) (vRet (vOp (addV s) (vOp (addV s) (vSl s (vVar 0) vpNone (vpSome (vNeg (vC s (.int 1))))) (vTup (vCons (vOp (addV s) (vOp (ixV s) (vVar 0) (vNeg (vC s (.int 1)))) (vOp (ixV s) (vVar 1) (vC s (.int 0)))) vNil))) (vSl s (vVar 1) (vpSome (vC s (.int 1))) vpNone))) vNx)
    (vRet (vOp (addV s) (vVar 0) (vVar 1))))
def V_put_together (s : Sy) : List U → Option U := vBody 2 (vB_put_together s)
theorem pu_put_together {s : Sy} {r : Txt → Txt} {b : Bool} (R : Rn s r) : Pu r b C_put_together (V_put_together s) := by
  unfold C_put_together
  exact pu_body (own' := []) (ss_seq (own1 := []) (ss_if (st_and (st_of (SP.l (sp_op (ov_gt R) (SP.l (sp_call (cv_len R) (sal_cons (SP.l (sp_var 0 (by decide))) sal_nil))) (SP.l (sp_c R rfl))))) (st_and (st_of (SP.l (sp_op (ov_gt R) (SP.l (sp_call (cv_len R) (sal_cons (SP.l (sp_var 1 (by decide))) sal_nil))) (SP.l (sp_c R rfl))))) (st_and (st_of (SP.l (sp_isi (SP.l (sp_op (ov_ix R) (SP.l (sp_var 0 (by decide))) (SP.l (sp_neg (sp_c R rfl)))))))) (st_of (SP.l (sp_isi (SP.l (sp_op (ov_ix R) (SP.l (sp_var 1 (by decide))) (SP.l (sp_c R rfl)))))))))) (ss_ret (sp_op (ov_add R) (SP.l (sp_op (ov_add R) (SP.l (sp_sl R (SP.l (sp_var 0 (by decide))) so_none (so_some (sp_neg (sp_c R rfl))))) (SP.l (sp_tup (sa_cons (sp_op (ov_add R) (SP.l (sp_op (ov_ix R) (SP.l (sp_var 0 (by decide))) (SP.l (sp_neg (sp_c R rfl))))) (SP.l (sp_op (ov_ix R) (SP.l (sp_var 1 (by decide))) (SP.l (sp_c R rfl))))) sa_nil))))) (SP.l (sp_sl R (SP.l (sp_var 1 (by decide))) (so_some (sp_c R rfl)) so_none)))) ss_nx)
    (ss_ret (sp_op (ov_add R) (SP.l (sp_var 0 (by decide))) (SP.l (sp_var 1 (by decide))))))
def xB_Runner_part (s : Sy) (r_Runner_part : List U → Rs → Option (XR Rs)) (r_Runner_worked : List U → Rs → Option (XR Rs)) : XSt Rs :=
  (xSeq (xAsg (.tp [8, 9, 10]) (xOk (xC (vVar 1))))
    (xSeq (xSet 3 (xOk (xOp rinV (xC (vVar 8)) xVals)))
    (xSeq (xSet 4 (xOk (xGet2 xVals (xC (vVar 8)) (xC (vTup vNil)))))
    (xSeq (xSet 5 (xOk (xC (vOr (vNot (vVar 3)) (vAnd (vCallD (V_is_hard s) (vCons (vVar 9) vNil)) (vOp (eqV s) (vVar 4) (vTup vNil)))))))
    (xSeq (xSet 6 (xOk (xC (vCallD (V_kind_of s) (vCons (vVar 9) vNil)))))
    (xSeq (xIf (xTc (vTOr (vT (vOp (eqV s) (vVar 6) (vC s (.str [])))) (vTAnd (vT (vOp (neV s) (vVar 6) (vC s (.str [43])))) (vTNot (vT (vVar 5)))))) (xRet (xOk (xC (vVar 4)))) xNx)
    (xSeq (xIf (xTc (vTAnd (vT (vOp (eqV s) (vVar 6) (vC s (.str [43])))) (vT (vVar 5)))) (xRet (xOk (xC (vTup vNil)))) xNx)
    (xSeq (xApp (xC (vVar 2)))
    (xSeq (xSet 7 (xCall r_Runner_worked (vCons (vVar 10) (vCons (vVar 2) vNil))))
    (xSeq (xIf (xTc (vT (vOp (eqV s) (vVar 6) (vC s (.str [63]))))) (xRaise (xC (vVar 7))) xNx)
    (xSeq (xIf (xTc (vT (vOp (eqV s) (vVar 6) (vC s (.str [61]))))) (xPut (xC (vVar 7)) (xC (vVar 8))) xNx)
    (xRet (xOk (xC (vVar 7)))))))))))))))
def xB_Runner_worked (s : Sy) (r_Runner_part : List U → Rs → Option (XR Rs)) (r_Runner_worked : List U → Rs → Option (XR Rs)) : XSt Rs :=
  (xSeq (xSet 3 (xOk (xC (vTup vNil))))
    (xSeq (xFor (vEn s (vVar 1)) (.tp [4, 5]) (xSeq (xSet 6 (xEif (vT (vIsi isStr (vVar 5))) (xOk (xC (vTup (vCons (vVar 5) vNil)))) (xCall r_Runner_part (vCons (vVar 5) (vCons (vOp (addV s) (vVar 2) (vTup (vCons (vVar 4) vNil))) vNil)))))
    (xSet 3 (xOk (xC (vCallD (V_put_together s) (vCons (vVar 3) (vCons (vVar 6) vNil))))))))
    (xSeq (xIf (xTc (vT (vOp (gtV s) (vCallD (V_length_of s) (vCons (vVar 3) vNil)) (vC s u_MOST_LONG)))) xNever xNx)
    (xRet (xOk (xC (vVar 3)))))))
mutual
def X_Runner_part (s : Sy) : Nat → List U → Rs → Option (XR Rs)
  | 0 => fun _ _ => none
  | n + 1 => xBody (fun us => none :: us.map some ++ List.replicate (11 - (us.length + 1)) none) (xB_Runner_part s (X_Runner_part s n) (X_Runner_worked s n))
def X_Runner_worked (s : Sy) : Nat → List U → Rs → Option (XR Rs)
  | 0 => fun _ _ => none
  | n + 1 => xBody (fun us => none :: us.map some ++ List.replicate (7 - (us.length + 1)) none) (xB_Runner_worked s (X_Runner_part s n) (X_Runner_worked s n))
end
theorem pxg_Runner_part {s : Sy} {r : Txt → Txt} {b : Bool} {rn nn mm : Nat} (R : Rn s r) : ∀ n : Nat, PuX r b (rsc r A_Runner rn nn mm) xRun (C_Runner_part n) (fun ds => .ref rn :: ds) (X_Runner_part s n) ∧ PuX r b (rsc r A_Runner rn nn mm) xRun (C_Runner_worked n) (fun ds => .ref rn :: ds) (X_Runner_worked s n)
  | 0 => ⟨pux_zero, pux_zero⟩
  | n + 1 => by
    obtain ⟨h_Runner_part, h_Runner_worked⟩ := pxg_Runner_part (b := b) (rn := rn) (nn := nn) (mm := mm) R n
    exact ⟨pux_body (sx_seq (sx_asg (t := (.tp [8, 9, 10])) (by simp [Tg.slots]) (xe_s (xs_c (sp_var 1 (by decide)))))
    (sx_seq (sx_set 3 (by simp) (xe_s (xs_op (ov_rin R) (xl_c (SP.l (sp_var 8 (by decide)))) (xl_vals (by simp)))))
    (sx_seq (sx_set 4 (by simp) (xe_s (xs_get2 R (xl_vals (by simp)) (xl_c (SP.l (sp_var 8 (by decide)))) (xs_c (sp_tup sa_nil)))))
    (sx_seq (sx_set 5 (by simp) (xe_s (xs_c (sp_or (sp_not (sp_var 3 (by decide))) (sp_and (sp_callD (pu_is_hard R) (sa_cons (sp_var 9 (by decide)) sa_nil)) (sp_op (ov_eq R) (SP.l (sp_var 4 (by decide))) (SP.l (sp_tup sa_nil))))))))
    (sx_seq (sx_set 6 (by simp) (xe_s (xs_c (sp_callD (pu_kind_of R) (sa_cons (sp_var 9 (by decide)) sa_nil)))))
    (sx_seq (sx_if (xt_c (st_or (st_of (SP.l (sp_op (ov_eq R) (SP.l (sp_var 6 (by decide))) (SP.l (sp_c R rfl))))) (st_and (st_of (SP.l (sp_op (ov_ne R) (SP.l (sp_var 6 (by decide))) (SP.l (sp_c R rfl))))) (st_not (st_of (SP.l (sp_var 5 (by decide)))))))) (sx_ret (xe_s (xs_c (sp_var 4 (by decide))))) sx_nx)
    (sx_seq (sx_if (xt_c (st_and (st_of (SP.l (sp_op (ov_eq R) (SP.l (sp_var 6 (by decide))) (SP.l (sp_c R rfl))))) (st_of (SP.l (sp_var 5 (by decide)))))) (sx_ret (xe_s (xs_c (sp_tup sa_nil)))) sx_nx)
    (sx_seq (sx_app (by simp) (xs_c (sp_var 2 (by decide))))
    (sx_seq (sx_set 7 (by simp) (xe_meth (by simp) (ins_of (by decide) (by decide)) h_Runner_worked (sa_cons (sp_var 10 (by decide)) (sa_cons (sp_var 2 (by decide)) sa_nil))))
    (sx_seq (sx_if (xt_c (st_of (SP.l (sp_op (ov_eq R) (SP.l (sp_var 6 (by decide))) (SP.l (sp_c R rfl)))))) (sx_raise (xs_c (sp_var 7 (by decide)))) sx_nx)
    (sx_seq (sx_if (xt_c (st_of (SP.l (sp_op (ov_eq R) (SP.l (sp_var 6 (by decide))) (SP.l (sp_c R rfl)))))) (sx_put R (by simp) (xs_c (sp_var 7 (by decide))) (xs_c (sp_var 8 (by decide)))) sx_nx)
    (sx_ret (xe_s (xs_c (sp_var 7 (by decide)))))))))))))))), pux_body (sx_seq (sx_set 3 (by simp) (xe_s (xs_c (sp_tup sa_nil))))
    (sx_seq (sx_for (t := (.tp [4, 5])) (si_en R (sp_var 1 (by decide))) (by simp [Tg.slots]) (sx_seq (sx_set 6 (by simp) (xe_if (st_of (SP.l (sp_isi (SP.l (sp_var 5 (by decide)))))) (xe_s (xs_c (sp_tup (sa_cons (sp_var 5 (by decide)) sa_nil)))) (xe_meth (by simp) (ins_of (by decide) (by decide)) h_Runner_part (sa_cons (sp_var 5 (by decide)) (sa_cons (sp_op (ov_add R) (SP.l (sp_var 2 (by decide))) (SP.l (sp_tup (sa_cons (sp_var 4 (by decide)) sa_nil)))) sa_nil)))))
    (sx_set 3 (by simp) (xe_s (xs_c (sp_callD (pu_put_together R) (sa_cons (sp_var 3 (by decide)) (sa_cons (sp_var 6 (by decide)) sa_nil))))))))
    (sx_seq (sx_if (xt_c (st_of (SP.l (sp_op (ov_gt R) (SP.l (sp_callD (pu_length_of R) (sa_cons (sp_var 3 (by decide)) sa_nil))) (SP.l (sp_c R rfl)))))) sx_never sx_nx)
    (sx_ret (xe_s (xs_c (sp_var 3 (by decide))))))))⟩
theorem px_Runner_part {s : Sy} {r : Txt → Txt} {b : Bool} {rn nn mm : Nat} (R : Rn s r) (n : Nat) : PuX r b (rsc r A_Runner rn nn mm) xRun (C_Runner_part n) (fun ds => .ref rn :: ds) (X_Runner_part s n) := (pxg_Runner_part R n).1
theorem px_Runner_worked {s : Sy} {r : Txt → Txt} {b : Bool} {rn nn mm : Nat} (R : Rn s r) (n : Nat) : PuX r b (rsc r A_Runner rn nn mm) xRun (C_Runner_worked n) (fun ds => .ref rn :: ds) (X_Runner_worked s n) := (pxg_Runner_part R n).2
def xB_Runner_done_row (s : Sy)  : XSt Rs :=
  (xIf (xTc (vT (vOp (eqV s) (vOp (ixV s) (vVar 2) (vC s (.int 0))) (vC s u_DROP)))) (xPop (xC (vOp (ixV s) (vVar 2) (vC s (.int 1))))) (xIf (xTc (vT (vOp (eqV s) (vOp (ixV s) (vVar 2) (vC s (.int 0))) (vC s u_CHECK)))) (xExpr (xCall (X_Runner_worked s 10) (vCons (vOp (ixV s) (vVar 2) (vC s (.int 1))) (vCons (vTup (vCons (vVar 1) vNil)) vNil)))) (xIf (xTor (xTc (vT (vOp (neV s) (vOp (ixV s) (vVar 2) (vC s (.int 0))) (vC s u_GIVE)))) (xTo (xOp rnotInV (xC (vOp (ixV s) (vVar 2) (vC s (.int 1)))) xVals))) (xSeq (xSet 3 (xCall (X_Runner_worked s 10) (vCons (vOp (ixV s) (vVar 2) (vC s (.int 2))) (vCons (vTup (vCons (vVar 1) vNil)) vNil))))
    (xPut (xC (vVar 3)) (xC (vOp (ixV s) (vVar 2) (vC s (.int 1)))))) xNx)))
def X_Runner_done_row (s : Sy) : List U → Rs → Option (XR Rs) := xBody (fun us => none :: us.map some ++ List.replicate (4 - (us.length + 1)) none) (xB_Runner_done_row s)
theorem px_Runner_done_row {s : Sy} {r : Txt → Txt} {b : Bool} {rn nn mm : Nat} (R : Rn s r) : PuX r b (rsc r A_Runner rn nn mm) xRun C_Runner_done_row (fun ds => .ref rn :: ds) (X_Runner_done_row s) := by
  unfold C_Runner_done_row
  exact pux_body (sx_if (xt_c (st_of (SP.l (sp_op (ov_eq R) (SP.l (sp_op (ov_ix R) (SP.l (sp_var 2 (by decide))) (SP.l (sp_c R rfl)))) (SP.l (sp_c R rfl)))))) (sx_pop R (by simp) (xs_c (sp_op (ov_ix R) (SP.l (sp_var 2 (by decide))) (SP.l (sp_c R rfl))))) (sx_if (xt_c (st_of (SP.l (sp_op (ov_eq R) (SP.l (sp_op (ov_ix R) (SP.l (sp_var 2 (by decide))) (SP.l (sp_c R rfl)))) (SP.l (sp_c R rfl)))))) (sx_expr (xe_meth (by simp) (ins_of (by decide) (by decide)) (px_Runner_worked R 10) (sa_cons (sp_op (ov_ix R) (SP.l (sp_var 2 (by decide))) (SP.l (sp_c R rfl))) (sa_cons (sp_tup (sa_cons (sp_var 1 (by decide)) sa_nil)) sa_nil)))) (sx_if (xt_or (xt_c (st_of (SP.l (sp_op (ov_ne R) (SP.l (sp_op (ov_ix R) (SP.l (sp_var 2 (by decide))) (SP.l (sp_c R rfl)))) (SP.l (sp_c R rfl)))))) (xt_of (XS.l (xs_op (ov_rnotIn R) (xl_c (SP.l (sp_op (ov_ix R) (SP.l (sp_var 2 (by decide))) (SP.l (sp_c R rfl))))) (xl_vals (by simp)))))) (sx_seq (sx_set 3 (by simp) (xe_meth (by simp) (ins_of (by decide) (by decide)) (px_Runner_worked R 10) (sa_cons (sp_op (ov_ix R) (SP.l (sp_var 2 (by decide))) (SP.l (sp_c R rfl))) (sa_cons (sp_tup (sa_cons (sp_var 1 (by decide)) sa_nil)) sa_nil))))
    (sx_put R (by simp) (xs_c (sp_var 3 (by decide))) (xs_c (sp_op (ov_ix R) (SP.l (sp_var 2 (by decide))) (SP.l (sp_c R rfl)))))) sx_nx)))
end LK34

set_option Elab.async false
set_option linter.all false
set_option maxRecDepth 100000
set_option maxHeartbeats 4000000
namespace LK34
open PySem Al
def xB_run_rows (s : Sy) : XSt Rs := xSeq (xTry s 2 u_STOPPED (xFor (vEn s (vVar 1)) (.tp [3, 4]) (xExpr (xCall (X_Runner_done_row s) (vCons (vVar 3) (vCons (vVar 4) vNil)))))) (xRet (xOk (xFin s u_DONE 5)))
def X_Runner_run_rows (s : Sy) : List U → Rs → Option (XR Rs) := xBody (fun us => none :: us.map some ++ List.replicate (6 - (us.length + 1)) none) (xB_run_rows s)
theorem px_Runner_run_rows {s : Sy} {r : Txt → Txt} {b : Bool} {rn nn mm : Nat} (R : Rn s r) : PuX r b (rsc r A_Runner rn nn mm) xRun C_Runner_run_rows (fun ds => .ref rn :: ds) (X_Runner_run_rows s) := by
  unfold C_Runner_run_rows
  exact pux_body (sx_seq (sx_try (xx := xRun) R (dc := u_STOPPED) rfl (si_en R (sp_var 1 (by decide))) (by simp [Tg.slots]) (sx_expr (xe_meth (by simp) (ins_of (by decide) (by decide)) (px_Runner_done_row R) (sa_cons (sp_var 3 (by decide)) (sa_cons (sp_var 4 (by decide)) sa_nil))))) (sx_ret (xe_s (xs_fin R (by simp) (by decide) rfl))))
theorem pf_begun {s : Sy} {r : Txt → Txt} {b : Bool} (R : Rn s r) : PuF r b C_begun (V_begun s) := by
  unfold C_begun
  exact puf_body (sf_dc R (si_val R (sp_var 0 (by decide))) (by decide) (by decide) (st_of (SP.l (sp_op (ov_ne R) (SP.l (sp_var 2 (by decide))) (SP.l (sp_c R rfl))))) (sp_var 1 (by decide)) (sp_if (st_of (SP.l (sp_op (ov_eq R) (SP.l (sp_var 2 (by decide))) (SP.l (sp_c R rfl))))) (sp_tup sa_nil) (sp_tup (sa_cons (sp_tup (sa_cons (sp_var 1 (by decide)) sa_nil)) sa_nil))))
/-- a run from a case -/
def V_outcome_in (s : Sy) (us : List U) : Option U := match us with
  | [rows, case] => (V_begun s [case]).bind fun v => match v with
    | .dct ks ws => (X_Runner_run_rows s [rows] ⟨ks, ws, []⟩).bind fun o => match o with
      | .ok u _ => some u
      | .ex _ _ => none
    | _ => none
  | _ => none
theorem pu_outcome_in {s : Sy} {r : Txt → Txt} {b : Bool} (R : Rn s r) : Pu r b C_outcome_in (V_outcome_in s) := fun L h S us ds u lk nl hb hs e => by
  unfold V_outcome_in at e
  split at e
  case h_2 => cases e
  rename_i rows case
  obtain ⟨v, e1, e⟩ := bnd e
  split at e
  case h_2 => cases e
  rename_i ks ws
  obtain ⟨o, e2, e⟩ := bnd e
  cases o with
  | ex w x => cases e
  | ok u' x' =>
    have e : some u' = some u := e
    obtain rfl : u' = u := by injection e
    obtain ⟨d0, y, rfl, k1, k2⟩ := hs.cons_iff
    obtain ⟨d1, y, rfl, k3, k4⟩ := k2.cons_iff
    rw [k4.nil_iff]
    obtain ⟨n, S1, a1, a2, a3, a4, kvs, a5, a6, a7⟩ := pf_begun (b := b) R L h S [case] [d1] _ lk nl hb (.cons k3 .nil) e1
    let ins : O := .ins A_Runner [("values_now", .ref n), ("spots_seen", .ref (S1.length + 1))]
    have hi : C_Runner___init__ [.ref S1.length, .ref n] (S1 ++ [.ins A_Runner []]) = .ok .non (S1 ++ [ins] ++ [.lst []]) := by
      unfold C_Runner___init__
      simp [bodyF, B_Runner___init__, startE, sSeq, sFldS, eVar, fputO, putD, eLst, aNil, ins]
      exact fs_ne
    have w1 : S1.length + 1 = (S1 ++ [ins]).length := by simp
    have l12 : S1 <+: S1 ++ [ins] ++ [.lst []] := (List.prefix_append _ _).trans (List.prefix_append _ _)
    have g12 : Gr L S1 (S1 ++ [ins] ++ [O.lst []]) := (Gr.app ins rfl).trans (Gr.app (.lst []) rfl)
    have hb2 : ∀ m ∈ n :: (S1.length + 1) :: h, m < (S1 ++ [ins] ++ [O.lst []]).length := fun m hm => by
      simp only [List.mem_cons] at hm
      simp
      rcases hm with rfl | rfl | hm
      · omega
      · omega
      · have := hb m hm; have := a2.le; omega
    -- what was seen is still seen
    have le : Le (vis h S) (vis (n :: (S1.length + 1) :: h) (S1 ++ [ins] ++ [.lst []])) := fun i o z => by
      have hi : i < S.length := by
        unfold vis at z
        split at z
        · cases z
        · cases q : S[i]? with
          | none => rw [q] at z; cases z
          | some y => exact (List.getElem?_eq_some_iff.mp q).1
      have z' := (a2.trans g12).vis (H := h) i o z
      unfold vis at z' ⊢
      split at z'
      · cases z'
      · rename_i q
        rw [if_neg (fun w => by
          simp only [List.mem_cons] at w
          rcases w with w | w | w
          · omega
          · have := a2.le; omega
          · exact q w)]
        exact z'
    have le2 : Le (vis (n :: h) S1) (vis (n :: (S1.length + 1) :: h) (S1 ++ [ins] ++ [.lst []])) := fun i o z => by
      have hi : i < S1.length := by
        unfold vis at z
        split at z
        · cases z
        · cases q : S1[i]? with
          | none => rw [q] at z; cases z
          | some y => exact (List.getElem?_eq_some_iff.mp q).1
      have z' := g12.vis (H := n :: h) i o z
      unfold vis at z' ⊢
      split at z'
      · cases z'
      · rename_i q
        rw [if_neg (fun w => by
          simp only [List.mem_cons] at w q
          rcases w with w | w | w
          · exact q (.inl w)
          · omega
          · exact q (.inr w))]
        exact z'
    have re : (rsc r A_Runner S1.length n (S1.length + 1)).rel (vis (n :: (S1.length + 1) :: h) (S1 ++ [ins] ++ [.lst []])) (S1 ++ [ins] ++ [.lst []]) ⟨ks, ws, []⟩ :=
      ⟨by simp [ins], ⟨kvs, pre_get l12 a5, a6, a7.mono le2⟩, [], by simp, .nil⟩
    have g := px_Runner_run_rows (b := b) R (rn := S1.length) (nn := n) (mm := S1.length + 1) L (n :: (S1.length + 1) :: h) (S1 ++ [ins] ++ [.lst []]) [rows] [d0] ⟨ks, ws, []⟩ (.ok u' x') lk (g12.nl (a2.nl nl)) hb2 (fun i hi => by simp [rsc] at hi; simp; rcases hi with rfl | rfl <;> simp) re (.cons (k1.mono le) .nil) e2
    obtain ⟨d, S', c1, c2, c3⟩ := g
    have insok : insOf A_Runner "run_rows" (.ref S1.length) (S1 ++ [ins] ++ [.lst []]) = true := ins_of (by decide) (by decide) _ _ _ re
    refine ⟨d, S', ?_, ?_, ?_⟩
    · unfold C_outcome_in
      have q : startE 2 [d0, d1] = [some d0, some d1] := rfl
      simp only [bodyF, B_outcome_in, q, sRet, eMeth, eMake, aCons, aNil, eCallD, eVar, List.getElem?_cons_zero, List.getElem?_cons_succ, Res.bind_ok, a1, hi]
      rw [if_pos insok]
      simp only [Res.bind_ok, c1]
    · have k := c2.kv
      have ls := a2.le
      refine kv_gr ⟨Nat.le_trans (a2.trans g12).le k.len, fun i hi _ => ?_, fun z => k.nl (g12.nl (a2.nl z))⟩
      rw [k.get i (Nat.lt_of_lt_of_le hi (a2.trans g12).le) (fun z => by simp [rsc] at z; omega)]
      obtain ⟨T, hT⟩ := (a2.trans g12).pre
      rw [← hT, List.getElem?_append_left hi]
    · have eH : Cv.H ⟨L, n :: (S1.length + 1) :: h, []⟩ = n :: (S1.length + 1) :: h := by simp [Cv.H, Cv.ms]
      rw [eH] at c3
      exact c3.mono (.sub fun i hi => List.mem_cons_of_mem _ (List.mem_cons_of_mem _ hi))
end LK34

set_option Elab.async false
set_option linter.all false
set_option maxRecDepth 100000
set_option maxHeartbeats 4000000
namespace LK34
open PySem Al
def vB_outcomes (s : Sy)  : VS :=
  (vRet (vDcN (vIt s (vCallD (V_all_cases s) (vCons (vVar 1) vNil))) (.nm 2) (fun _ => some true) (vVar 2) (vCallD (V_outcome_in s) (vCons (vVar 0) (vCons (vVar 2) vNil))) [2]))
def V_outcomes (s : Sy) : List U → Option U := vBody 3 (vB_outcomes s)
theorem pu_outcomes {s : Sy} {r : Txt → Txt} {b : Bool} (R : Rn s r) : Pu r b C_outcomes (V_outcomes s) := by
  unfold C_outcomes
  exact pu_body (own' := []) (ss_ret (sp_dcN R (si_val R (sp_callD (pu_all_cases R) (sa_cons (sp_var 1 (by decide)) sa_nil))) (by decide) (by decide) st_yes (sp_var 2 (by decide)) (sp_callD (pu_outcome_in R) (sa_cons (sp_var 0 (by decide)) (sa_cons (sp_var 2 (by decide)) sa_nil)))))
def vB_environment_of (s : Sy)  : VS :=
  (vRet (vDc (vIt s (vVar 0)) (.tp [1, 2]) (vT (vOp (neV s) (vVar 2) (vC s u_UNSET))) (vVar 1) (vIf (vT (vOp (eqV s) (vVar 2) (vC s u_EMPTY))) (vC s (.str [])) (vC s u_ONE_SIGN)) [1, 2]))
def V_environment_of (s : Sy) : List U → Option U := vBody 3 (vB_environment_of s)
theorem pu_environment_of {s : Sy} {r : Txt → Txt} {b : Bool} (R : Rn s r) : Pu r b C_environment_of (V_environment_of s) := by
  unfold C_environment_of
  exact pu_body (own' := []) (ss_ret (sp_dc R (si_val R (sp_var 0 (by decide))) (by decide) (by decide) (st_of (SP.l (sp_op (ov_ne R) (SP.l (sp_var 2 (by decide))) (SP.l (sp_c R rfl))))) (sp_var 1 (by decide)) (sp_if (st_of (SP.l (sp_op (ov_eq R) (SP.l (sp_var 2 (by decide))) (SP.l (sp_c R rfl))))) (sp_c R rfl) (sp_c R rfl))))
def vB_need_name (s : Sy)  : VS :=
  (vSeq (vSIf (vTNot (vT (vCallD (V_is_name s) (vCons (vVar 0) vNil)))) vNever vNx)
    (vRet (vVar 0)))
def V_need_name (s : Sy) : List U → Option U := vBody 1 (vB_need_name s)
theorem pu_need_name {s : Sy} {r : Txt → Txt} {b : Bool} (R : Rn s r) : Pu r b C_need_name (V_need_name s) := by
  unfold C_need_name
  exact pu_body (own' := []) (ss_seq (own1 := []) (ss_if (st_not (st_of (SP.l (sp_callD (pu_is_name R) (sa_cons (sp_var 0 (by decide)) sa_nil))))) ss_none ss_nx)
    (ss_ret (sp_var 0 (by decide))))
def vB_done_ends (s : Sy)  : VS :=
  (vSeq (vSet 2 (vCallD (V_outcomes s) (vCons (vVar 0) (vCons (vVar 1) vNil))))
    (vRet (vLock 2 (vLc (vKeysT (vVar 2)) (.nm 3) (vT (vOp (eqV s) (vOp (ixV s) (vOp tixV (vVar 2) (vVar 3)) (vC s (.int 0))) (vC s u_DONE))) (vTup (vCons (vVar 3) (vCons (vOp (ixV s) (vOp tixV (vVar 2) (vVar 3)) (vC s (.int 1))) vNil))) [3]))))
def V_done_ends (s : Sy) : List U → Option U := vBody 4 (vB_done_ends s)
theorem pu_done_ends {s : Sy} {r : Txt → Txt} (R : Rn s r) : Pu r true C_done_ends (V_done_ends s) := by
  unfold C_done_ends
  exact pu_body (own' := []) (ss_seq (own1 := []) (ss_set 2 (by decide) (sp_callD (pu_outcomes R) (sa_cons (sp_var 0 (by decide)) (sa_cons (sp_var 1 (by decide)) sa_nil))))
    (ss_ret (sp_lockLcT 2 (by decide) (by decide) (by decide) (st_of (SP.l (sp_op (ov_eq R) (SP.l (sp_op (ov_ix R) (SP.l (sp_op (ov_tix R) (SP.l (sp_var 2 (by decide))) (SP.l (sp_var 3 (by decide))))) (SP.l (sp_c R rfl)))) (SP.l (sp_c R rfl))))) (sp_tup (sa_cons (sp_var 3 (by decide)) (sa_cons (sp_op (ov_ix R) (SP.l (sp_op (ov_tix R) (SP.l (sp_var 2 (by decide))) (SP.l (sp_var 3 (by decide))))) (SP.l (sp_c R rfl))) sa_nil))))))
def vB_is_plain_word (s : Sy)  : VS :=
  (vRet (vCall allV (vCons (vLc (vIt s (vVar 0)) (.nm 1) (fun _ => some true) (vIsi isStr (vVar 1)) [1]) vNil)))
def V_is_plain_word (s : Sy) : List U → Option U := vBody 2 (vB_is_plain_word s)
theorem pu_is_plain_word {s : Sy} {r : Txt → Txt} {b : Bool} (R : Rn s r) : Pu r b C_is_plain_word (V_is_plain_word s) := by
  unfold C_is_plain_word
  exact pu_body (own' := []) (ss_ret (sp_call cv_all (sal_cons (SP.l (sp_lc (si_val R (sp_var 0 (by decide))) (by decide) (by decide) st_yes (sp_isi (SP.l (sp_var 1 (by decide)))))) sal_nil)))
def vB_is_fixed (s : Sy)  : VS :=
  (vSeq (vSet 2 (vLc (vIt s (vVar 0)) (.tp [3, 4]) (fun _ => some true) (vGet1 (vVar 4) (vVar 1)) [3, 4]))
    (vSeq (vSIf (vTOr (vT (vOp (eqV s) (vVar 2) (vLst vNil))) (vTAnd (vT (vOp isNotV (vOp (ixV s) (vVar 2) (vC s (.int 0))) (vC s .non))) (vTNot (vT (vCallD (V_is_plain_word s) (vCons (vOp (ixV s) (vVar 2) (vC s (.int 0))) vNil)))))) (vRet (vC s (.bl false))) vNx)
    (vRet (vCall allV (vCons (vLc (vIt s (vVar 2)) (.nm 5) (fun _ => some true) (vOp (eqV s) (vVar 5) (vOp (ixV s) (vVar 2) (vC s (.int 0)))) [5]) vNil)))))
def V_is_fixed (s : Sy) : List U → Option U := vBody 6 (vB_is_fixed s)
theorem pu_is_fixed {s : Sy} {r : Txt → Txt} {b : Bool} (R : Rn s r) : Pu r b C_is_fixed (V_is_fixed s) := by
  unfold C_is_fixed
  exact pu_body (own' := []) (ss_seq (own1 := []) (ss_set 2 (by decide) (sp_lc (si_val R (sp_var 0 (by decide))) (by decide) (by decide) st_yes (sp_get1 R (SP.l (sp_var 4 (by decide))) (SP.l (sp_var 1 (by decide))))))
    (ss_seq (own1 := []) (ss_if (st_or (st_of (SP.l (sp_op (ov_eq R) (SP.l (sp_var 2 (by decide))) (SP.l (sp_lst sa_nil))))) (st_and (st_of (SP.l (sp_op ov_isNot (SP.l (sp_op (ov_ix R) (SP.l (sp_var 2 (by decide))) (SP.l (sp_c R rfl)))) (SP.l (sp_c R rfl))))) (st_not (st_of (SP.l (sp_callD (pu_is_plain_word R) (sa_cons (sp_op (ov_ix R) (SP.l (sp_var 2 (by decide))) (SP.l (sp_c R rfl))) sa_nil))))))) (ss_ret (sp_c R rfl)) ss_nx)
    (ss_ret (sp_call cv_all (sal_cons (SP.l (sp_lc (si_val R (sp_var 2 (by decide))) (by decide) (by decide) st_yes (sp_op (ov_eq R) (SP.l (sp_var 5 (by decide))) (SP.l (sp_op (ov_ix R) (SP.l (sp_var 2 (by decide))) (SP.l (sp_c R rfl))))))) sal_nil)))))
def vB_fixed (s : Sy)  : VS :=
  (vSeq (vSet 1 (vCallD (V_all_names s) (vCons (vLst (vCons (vCallD (V_need_file s) (vCons (vVar 0) vNil)) vNil)) (vCons (vTup vNil) vNil))))
    (vSeq (vSet 2 (vCallD (V_done_ends s) (vCons (vVar 0) (vCons (vVar 1) vNil))))
    (vSeq (vSetO 3 (fun _ => some (.dct [] [])))
    (vSeq (vFor (vIt s (vVar 1)) (.nm 4) (vSIf (vT (vCallD (V_is_fixed s) (vCons (vVar 2) (vCons (vVar 4) vNil)))) (vSeq (vSet 5 (vGet1 (vOp (ixV s) (vOp (ixV s) (vVar 2) (vC s (.int 0))) (vC s (.int 1))) (vVar 4)))
    (vDput 3 (vIf (vT (vOp isV (vVar 5) (vC s .non))) (vC s .non) (vJoinT s (vC s (.str [])) (vVar 5))) (vVar 4))) vNx))
    (vRet (vVar 3))))))
def V_fixed (s : Sy) : List U → Option U := vBody 6 (vB_fixed s)
theorem pu_fixed {s : Sy} {r : Txt → Txt} (R : Rn s r) : Pu r true C_fixed (V_fixed s) := by
  unfold C_fixed
  exact pu_body (own' := []) (ss_seq (own1 := []) (ss_set 1 (by decide) (sp_callD (pu_all_names R) (sa_cons (sp_lst (sa_cons (sp_callD (pu_need_file R) (sa_cons (sp_var 0 (by decide)) sa_nil)) sa_nil)) (sa_cons (sp_tup sa_nil) sa_nil))))
    (ss_seq (own1 := []) (ss_set 2 (by decide) (sp_callD (pu_done_ends R) (sa_cons (sp_var 0 (by decide)) (sa_cons (sp_var 1 (by decide)) sa_nil))))
    (ss_seq (own1 := [3]) (ss_own 3 (by decide) sf_d0)
    (ss_seq (own1 := [3]) (ss_for (t := (.nm 4)) (si_val R (sp_var 1 (by decide))) (by decide) (ss_if (st_of (SP.l (sp_callD (pu_is_fixed R) (sa_cons (sp_var 2 (by decide)) (sa_cons (sp_var 4 (by decide)) sa_nil))))) (ss_seq (own1 := [3]) (ss_set 5 (by decide) (sp_get1 R (SP.l (sp_op (ov_ix R) (SP.l (sp_op (ov_ix R) (SP.l (sp_var 2 (by decide))) (SP.l (sp_c R rfl)))) (SP.l (sp_c R rfl)))) (SP.l (sp_var 4 (by decide)))))
    (ss_dput R 3 (by decide) (sp_if (st_of (SP.l (sp_op ov_is (SP.l (sp_var 5 (by decide))) (SP.l (sp_c R rfl))))) (sp_c R rfl) (sp_joinT R (SP.l (sp_c R rfl)) (SP.l (sp_var 5 (by decide))))) (sp_var 4 (by decide)))) ss_nx))
    (ss_retv 3)))))
def vB_longer (s : Sy)  : VS :=
  (vRet (vDc (vIt s (vVar 0)) (.tp [1, 2]) (vT (vOp (neV s) (vVar 2) (vC s u_UNSET))) (vVar 1) (vIf (vT (vOp (eqV s) (vVar 2) (vC s u_EMPTY))) (vC s (.str [])) (vC s (.str [97, 97]))) [1, 2]))
def V_longer (s : Sy) : List U → Option U := vBody 3 (vB_longer s)
theorem pu_longer {s : Sy} {r : Txt → Txt} {b : Bool} (R : Rn s r) : Pu r b C_longer (V_longer s) := by
  unfold C_longer
  exact pu_body (own' := []) (ss_ret (sp_dc R (si_val R (sp_var 0 (by decide))) (by decide) (by decide) (st_of (SP.l (sp_op (ov_ne R) (SP.l (sp_var 2 (by decide))) (SP.l (sp_c R rfl))))) (sp_var 1 (by decide)) (sp_if (st_of (SP.l (sp_op (ov_eq R) (SP.l (sp_var 2 (by decide))) (SP.l (sp_c R rfl))))) (sp_c R rfl) (sp_c R rfl))))
def vB_unfixed (s : Sy)  : VS :=
  (vSeq (vExpr (vCallD (V_need_file s) (vCons (vVar 0) vNil)))
    (vSeq (vSet 2 (vCallD (V_all_names s) (vCons (vLst (vCons (vVar 0) vNil)) (vCons (vLst (vCons (vCallD (V_need_name s) (vCons (vVar 1) vNil)) vNil)) vNil))))
    (vSeq (vSet 3 (vCallD (V_done_ends s) (vCons (vVar 0) (vCons (vVar 2) vNil))))
    (vSeq (vFor (vIt s (vVar 3)) (.tp [4, 5]) (vSeq (vSet 6 (vGet1 (vVar 5) (vVar 1)))
    (vSeq (vSIf (vTAnd (vT (vOp isNotV (vVar 6) (vC s .non))) (vTNot (vT (vCallD (V_is_plain_word s) (vCons (vVar 6) vNil))))) (vRet (vTup (vCons (vCallD (V_environment_of s) (vCons (vVar 4) vNil)) (vCons (vCallD (V_longer s) (vCons (vVar 4) vNil)) vNil)))) vNx)
    (vSIf (vT (vOp (neV s) (vVar 6) (vGet1 (vOp (ixV s) (vOp (ixV s) (vVar 3) (vC s (.int 0))) (vC s (.int 1))) (vVar 1)))) (vRet (vTup (vCons (vCallD (V_environment_of s) (vCons (vOp (ixV s) (vOp (ixV s) (vVar 3) (vC s (.int 0))) (vC s (.int 0))) vNil)) (vCons (vCallD (V_environment_of s) (vCons (vVar 4) vNil)) vNil)))) vNx))))
    (vRet (vC s .non))))))
def V_unfixed (s : Sy) : List U → Option U := vBody 7 (vB_unfixed s)
theorem pu_unfixed {s : Sy} {r : Txt → Txt} (R : Rn s r) : Pu r true C_unfixed (V_unfixed s) := by
  unfold C_unfixed
  exact pu_body (own' := []) (ss_seq (own1 := []) (ss_expr (sp_callD (pu_need_file R) (sa_cons (sp_var 0 (by decide)) sa_nil)))
    (ss_seq (own1 := []) (ss_set 2 (by decide) (sp_callD (pu_all_names R) (sa_cons (sp_lst (sa_cons (sp_var 0 (by decide)) sa_nil)) (sa_cons (sp_lst (sa_cons (sp_callD (pu_need_name R) (sa_cons (sp_var 1 (by decide)) sa_nil)) sa_nil)) sa_nil))))
    (ss_seq (own1 := []) (ss_set 3 (by decide) (sp_callD (pu_done_ends R) (sa_cons (sp_var 0 (by decide)) (sa_cons (sp_var 2 (by decide)) sa_nil))))
    (ss_seq (own1 := []) (ss_for (t := (.tp [4, 5])) (si_val R (sp_var 3 (by decide))) (by decide) (ss_seq (own1 := []) (ss_set 6 (by decide) (sp_get1 R (SP.l (sp_var 5 (by decide))) (SP.l (sp_var 1 (by decide)))))
    (ss_seq (own1 := []) (ss_if (st_and (st_of (SP.l (sp_op ov_isNot (SP.l (sp_var 6 (by decide))) (SP.l (sp_c R rfl))))) (st_not (st_of (SP.l (sp_callD (pu_is_plain_word R) (sa_cons (sp_var 6 (by decide)) sa_nil)))))) (ss_ret (sp_tup (sa_cons (sp_callD (pu_environment_of R) (sa_cons (sp_var 4 (by decide)) sa_nil)) (sa_cons (sp_callD (pu_longer R) (sa_cons (sp_var 4 (by decide)) sa_nil)) sa_nil)))) ss_nx)
    (ss_if (st_of (SP.l (sp_op (ov_ne R) (SP.l (sp_var 6 (by decide))) (SP.l (sp_get1 R (SP.l (sp_op (ov_ix R) (SP.l (sp_op (ov_ix R) (SP.l (sp_var 3 (by decide))) (SP.l (sp_c R rfl)))) (SP.l (sp_c R rfl)))) (SP.l (sp_var 1 (by decide)))))))) (ss_ret (sp_tup (sa_cons (sp_callD (pu_environment_of R) (sa_cons (sp_op (ov_ix R) (SP.l (sp_op (ov_ix R) (SP.l (sp_var 3 (by decide))) (SP.l (sp_c R rfl)))) (SP.l (sp_c R rfl))) sa_nil)) (sa_cons (sp_callD (pu_environment_of R) (sa_cons (sp_var 4 (by decide)) sa_nil)) sa_nil)))) ss_nx))))
    (ss_ret (sp_c R rfl))))))
def vB_breaking_case (s : Sy)  : VS :=
  (vSeq (vExpr (vCallD (V_need_file s) (vCons (vVar 0) vNil)))
    (vSeq (vSet 2 (vCallD (V_all_names s) (vCons (vLst (vCons (vVar 0) vNil)) (vCons (vLst (vCons (vCallD (V_need_name s) (vCons (vVar 1) vNil)) vNil)) vNil))))
    (vSeq (vFor (vIt s (vCallD (V_done_ends s) (vCons (vVar 0) (vCons (vVar 2) vNil)))) (.tp [3, 4]) (vSIf (vT (vOp (eqV s) (vGet2 (vVar 4) (vVar 1) (vTup vNil)) (vTup vNil))) (vRet (vVar 3)) vNx))
    (vRet (vC s .non)))))
def V_breaking_case (s : Sy) : List U → Option U := vBody 5 (vB_breaking_case s)
theorem pu_breaking_case {s : Sy} {r : Txt → Txt} (R : Rn s r) : Pu r true C_breaking_case (V_breaking_case s) := by
  unfold C_breaking_case
  exact pu_body (own' := []) (ss_seq (own1 := []) (ss_expr (sp_callD (pu_need_file R) (sa_cons (sp_var 0 (by decide)) sa_nil)))
    (ss_seq (own1 := []) (ss_set 2 (by decide) (sp_callD (pu_all_names R) (sa_cons (sp_lst (sa_cons (sp_var 0 (by decide)) sa_nil)) (sa_cons (sp_lst (sa_cons (sp_callD (pu_need_name R) (sa_cons (sp_var 1 (by decide)) sa_nil)) sa_nil)) sa_nil))))
    (ss_seq (own1 := []) (ss_for (t := (.tp [3, 4])) (si_val R (sp_callD (pu_done_ends R) (sa_cons (sp_var 0 (by decide)) (sa_cons (sp_var 2 (by decide)) sa_nil)))) (by decide) (ss_if (st_of (SP.l (sp_op (ov_eq R) (SP.l (sp_get2 R (SP.l (sp_var 4 (by decide))) (SP.l (sp_var 1 (by decide))) (sp_tup sa_nil))) (SP.l (sp_tup sa_nil))))) (ss_ret (sp_var 3 (by decide))) ss_nx))
    (ss_ret (sp_c R rfl)))))
def vB_lasts (s : Sy)  : VS :=
  (vRet (vOp isV (vCallD (V_breaking_case s) (vCons (vVar 0) (vCons (vVar 1) vNil))) (vC s .non)))
def V_lasts (s : Sy) : List U → Option U := vBody 2 (vB_lasts s)
theorem pu_lasts {s : Sy} {r : Txt → Txt} (R : Rn s r) : Pu r true C_lasts (V_lasts s) := by
  unfold C_lasts
  exact pu_body (own' := []) (ss_ret (sp_op ov_is (SP.l (sp_callD (pu_breaking_case R) (sa_cons (sp_var 0 (by decide)) (sa_cons (sp_var 1 (by decide)) sa_nil)))) (SP.l (sp_c R rfl))))
def vB_breaker (s : Sy)  : VS :=
  (vSeq (vSet 2 (vCallD (V_breaking_case s) (vCons (vVar 0) (vCons (vVar 1) vNil))))
    (vSeq (vSIf (vT (vOp isV (vVar 2) (vC s .non))) (vRet (vC s .non)) vNx)
    (vRet (vTup (vCons (vTup (vCons (vTup (vCons (vC s u_CHECK) (vCons (vTup (vCons (vTup (vCons (vVar 1) (vCons (vC s (.str [58, 61])) (vCons (vTup (vCons (vC s u_BREAKING) vNil)) vNil)))) vNil)) vNil))) vNil)) (vCons (vCallD (V_environment_of s) (vCons (vVar 2) vNil)) vNil))))))
def V_breaker (s : Sy) : List U → Option U := vBody 3 (vB_breaker s)
theorem pu_breaker {s : Sy} {r : Txt → Txt} (R : Rn s r) : Pu r true C_breaker (V_breaker s) := by
  unfold C_breaker
  exact pu_body (own' := []) (ss_seq (own1 := []) (ss_set 2 (by decide) (sp_callD (pu_breaking_case R) (sa_cons (sp_var 0 (by decide)) (sa_cons (sp_var 1 (by decide)) sa_nil))))
    (ss_seq (own1 := []) (ss_if (st_of (SP.l (sp_op ov_is (SP.l (sp_var 2 (by decide))) (SP.l (sp_c R rfl))))) (ss_ret (sp_c R rfl)) ss_nx)
    (ss_ret (sp_tup (sa_cons (sp_tup (sa_cons (sp_tup (sa_cons (sp_c R rfl) (sa_cons (sp_tup (sa_cons (sp_tup (sa_cons (sp_var 1 (by decide)) (sa_cons (sp_c R rfl) (sa_cons (sp_tup (sa_cons (sp_c R rfl) sa_nil)) sa_nil)))) sa_nil)) sa_nil))) sa_nil)) (sa_cons (sp_callD (pu_environment_of R) (sa_cons (sp_var 2 (by decide)) sa_nil)) sa_nil))))))
def xB__law_worked (s : Sy) (r__law_worked : List U → Rs → Option (XR Rs)) : XSt Rs :=
  (xSeq (xSet 3 (xOk (xC (vC s (.str [])))))
    (xSeq (xFor (vIt s (vVar 1)) (.nm 4) (xSeq (xIf (xTc (vT (vIsi isStr (vVar 4)))) (xSeq (xSet 3 (xOk (xC (vOp (addV s) (vVar 3) (vVar 4)))))
    xCt) xNx)
    (xSeq (xAsg (.tp [6, 7, 8]) (xOk (xC (vVar 4))))
    (xSeq (xSet 5 (xOk (xOr (xOp rnotInV (xC (vVar 6)) xVals) (xAnd (xC (vOp (eqV s) (vSl s (vVar 7) vpNone (vpSome (vC s (.int 1)))) (vC s (.str [58])))) (xOp (eqV s) (xOp rixV xVals (xC (vVar 6))) (xC (vC s (.str []))))))))
    (xIf (xTc (vTOr (vT (vOp (eqV s) (vVar 7) (vC s (.str [])))) (vTAnd (vT (vOp (neV s) (vSl s (vVar 7) (vpSome (vNeg (vC s (.int 1)))) vpNone) (vC s (.str [43])))) (vTNot (vT (vVar 5)))))) (xSet 3 (xOk (xOp (addV s) (xC (vVar 3)) (xGet2 xVals (xC (vVar 6)) (xC (vC s (.str []))))))) (xIf (xTc (vTOr (vT (vOp (neV s) (vSl s (vVar 7) (vpSome (vNeg (vC s (.int 1)))) vpNone) (vC s (.str [43])))) (vTNot (vT (vVar 5))))) (xSeq (xAsg (.tp [9, 10]) (xCall r__law_worked (vCons (vVar 8) vNil)))
    (xSeq (xIf (xTc (vTOr (vT (vVar 10)) (vT (vOp (eqV s) (vSl s (vVar 7) (vpSome (vNeg (vC s (.int 1)))) vpNone) (vC s (.str [63])))))) (xRet (xOk (xC (vTup (vCons (vVar 9) (vCons (vC s (.bl true)) vNil)))))) xNx)
    (xSeq (xIf (xTc (vT (vOp (eqV s) (vSl s (vVar 7) (vpSome (vNeg (vC s (.int 1)))) vpNone) (vC s (.str [61]))))) (xPut (xC (vVar 9)) (xC (vVar 6))) xNx)
    (xSet 3 (xOk (xC (vOp (addV s) (vVar 3) (vVar 9)))))))) xNx))))))
    (xSeq (xApp (xC (vCall (lenV s) (vCons (vVar 3) vNil))))
    (xRet (xOk (xC (vTup (vCons (vSl s (vVar 3) vpNone (vpSome (vC s (.int 100000)))) (vCons (vC s (.bl false)) vNil)))))))))
def X__law_worked (s : Sy) : Nat → List U → Rs → Option (XR Rs)
  | 0 => fun _ _ => none
  | n + 1 => xBody2 11 (xB__law_worked s (X__law_worked s n))
theorem px__law_worked {s : Sy} {r : Txt → Txt} {b : Bool} {nn mm : Nat} (R : Rn s r) : ∀ n : Nat, PuX r b (rsc2 r nn mm) xRun (C__law_worked n) (mk2 nn mm) (X__law_worked s n)
  | 0 => pux_zero
  | n + 1 => by
    have h__law_worked := px__law_worked (b := b) (nn := nn) (mm := mm) R n
    exact pux_body2 (by decide) (sx_seq (sx_set 3 (by simp) (xe_s (xs_c (sp_c R rfl))))
    (sx_seq (sx_for (t := (.nm 4)) (si_val R (sp_var 1 (by decide))) (by simp [Tg.slots]) (sx_seq (sx_if (xt_c (st_of (SP.l (sp_isi (SP.l (sp_var 4 (by decide))))))) (sx_seq (sx_set 3 (by simp) (xe_s (xs_c (sp_op (ov_add R) (SP.l (sp_var 3 (by decide))) (SP.l (sp_var 4 (by decide)))))))
    sx_ct) sx_nx)
    (sx_seq (sx_asg (t := (.tp [6, 7, 8])) (by simp [Tg.slots]) (xe_s (xs_c (sp_var 4 (by decide)))))
    (sx_seq (sx_set 5 (by simp) (xe_s (xs_or (xs_op (ov_rnotIn R) (xl_c (SP.l (sp_var 6 (by decide)))) (xl_env (by simp))) (xs_and (xs_c (sp_op (ov_eq R) (SP.l (sp_sl R (SP.l (sp_var 7 (by decide))) so_none (so_some (sp_c R rfl)))) (SP.l (sp_c R rfl)))) (xs_op (ov_eq R) (XS.l (xs_op (ov_rix R) (xl_env (by simp)) (xl_c (SP.l (sp_var 6 (by decide)))))) (xl_c (SP.l (sp_c R rfl))))))))
    (sx_if (xt_c (st_or (st_of (SP.l (sp_op (ov_eq R) (SP.l (sp_var 7 (by decide))) (SP.l (sp_c R rfl))))) (st_and (st_of (SP.l (sp_op (ov_ne R) (SP.l (sp_sl R (SP.l (sp_var 7 (by decide))) (so_some (sp_neg (sp_c R rfl))) so_none)) (SP.l (sp_c R rfl))))) (st_not (st_of (SP.l (sp_var 5 (by decide)))))))) (sx_set 3 (by simp) (xe_s (xs_op (ov_add R) (xl_c (SP.l (sp_var 3 (by decide)))) (XS.l (xs_get2 R (xl_env (by simp)) (xl_c (SP.l (sp_var 6 (by decide)))) (xs_c (sp_c R rfl))))))) (sx_if (xt_c (st_or (st_of (SP.l (sp_op (ov_ne R) (SP.l (sp_sl R (SP.l (sp_var 7 (by decide))) (so_some (sp_neg (sp_c R rfl))) so_none)) (SP.l (sp_c R rfl))))) (st_not (st_of (SP.l (sp_var 5 (by decide))))))) (sx_seq (sx_asg (t := (.tp [9, 10])) (by simp [Tg.slots]) (xe_call2 (by simp) (by simp) h__law_worked (sp_var 8 (by decide))))
    (sx_seq (sx_if (xt_c (st_or (st_of (SP.l (sp_var 10 (by decide)))) (st_of (SP.l (sp_op (ov_eq R) (SP.l (sp_sl R (SP.l (sp_var 7 (by decide))) (so_some (sp_neg (sp_c R rfl))) so_none)) (SP.l (sp_c R rfl))))))) (sx_ret (xe_s (xs_c (sp_tup (sa_cons (sp_var 9 (by decide)) (sa_cons (sp_c R rfl) sa_nil)))))) sx_nx)
    (sx_seq (sx_if (xt_c (st_of (SP.l (sp_op (ov_eq R) (SP.l (sp_sl R (SP.l (sp_var 7 (by decide))) (so_some (sp_neg (sp_c R rfl))) so_none)) (SP.l (sp_c R rfl)))))) (sx_put2 R (by simp) (xs_c (sp_var 9 (by decide))) (xs_c (sp_var 6 (by decide)))) sx_nx)
    (sx_set 3 (by simp) (xe_s (xs_c (sp_op (ov_add R) (SP.l (sp_var 3 (by decide))) (SP.l (sp_var 9 (by decide)))))))))) sx_nx))))))
    (sx_seq (sx_app2 (by simp) (xs_c (sp_call (cv_len R) (sal_cons (SP.l (sp_var 3 (by decide))) sal_nil))))
    (sx_ret (xe_s (xs_c (sp_tup (sa_cons (sp_sl R (SP.l (sp_var 3 (by decide))) so_none (so_some (sp_c R rfl))) (sa_cons (sp_c R rfl) sa_nil)))))))))
def xB__law_run_seen (s : Sy) : XSt Rs :=
  (xFor (vIt s (vVar 1)) (.nm 3) (xIf (xTc (vT (vOp (eqV s) (vOp (ixV s) (vVar 3) (vC s (.int 0))) (vC s (.str [100, 114, 111, 112]))))) (xPop (xC (vOp (ixV s) (vVar 3) (vC s (.int 1))))) (xIf (xTor (xTc (vT (vOp (neV s) (vOp (ixV s) (vVar 3) (vC s (.int 0))) (vC s (.str [103, 105, 118, 101]))))) (xTo (xOp rnotInV (xC (vOp (ixV s) (vVar 3) (vC s (.int 1)))) xVals))) (xSeq (xAsg (.tp [4, 5]) (xCall (X__law_worked s 8) (vCons (vOp (ixV s) (vVar 3) (vNeg (vC s (.int 1)))) vNil)))
    (xSeq (xIf (xTc (vT (vVar 5))) (xRet (xOk (xC (vTup (vCons (vC s (.str [115, 116, 111, 112, 112, 101, 100])) (vCons (vVar 4) vNil)))))) xNx)
    (xIf (xTc (vT (vOp (neV s) (vOp (ixV s) (vVar 3) (vC s (.int 0))) (vC s (.str [99, 104, 101, 99, 107]))))) (xPut (xC (vVar 4)) (xC (vOp (ixV s) (vVar 3) (vC s (.int 1))))) xNx))) xNx)))
theorem sxB__law_run_seen {s : Sy} {r : Txt → Txt} {b : Bool} {nn mm : Nat} (R : Rn s r) : SX r b (rsc2 r nn mm) [(0, nn), (2, mm)] xRun (sFor (iVal (eVar 1)) (.nm 3) (sIf (tOf (eOp eqO (eOp ixO (eVar 3) (eC (.int 0))) (eC (.str [100, 114, 111, 112])))) (sExpr (eGet2 popO (eVar 0) (eOp ixO (eVar 3) (eC (.int 1))) (eC .non))) (sIf (tOrF (tOf (eOp neO (eOp ixO (eVar 3) (eC (.int 0))) (eC (.str [103, 105, 118, 101])))) (tOf (eOp rnotInO (eOp ixO (eVar 3) (eC (.int 1))) (eVar 0)))) (sSeq (sAsg (.tp [4, 5]) (eCallD (C__law_worked 8) (aCons (eVar 0) (aCons (eOp ixO (eVar 3) (eNeg (eC (.int 1)))) (aCons (eVar 2) aNil))))) (sSeq (sIf (tOf (eVar 5)) (sRet (eTup (aCons (eC (.str [115, 116, 111, 112, 112, 101, 100])) (aCons (eVar 4) aNil)))) sNx) (sIf (tOf (eOp neO (eOp ixO (eVar 3) (eC (.int 0))) (eC (.str [99, 104, 101, 99, 107])))) (sPut putO (eVar 4) (eVar 0) (eOp ixO (eVar 3) (eC (.int 1)))) sNx))) sNx))) (xB__law_run_seen s) := (sx_for (t := (.nm 3)) (si_val R (sp_var 1 (by decide))) (by simp [Tg.slots]) (sx_if (xt_c (st_of (SP.l (sp_op (ov_eq R) (SP.l (sp_op (ov_ix R) (SP.l (sp_var 3 (by decide))) (SP.l (sp_c R rfl)))) (SP.l (sp_c R rfl)))))) (sx_pop2 R (by simp) (xs_c (sp_op (ov_ix R) (SP.l (sp_var 3 (by decide))) (SP.l (sp_c R rfl))))) (sx_if (xt_or (xt_c (st_of (SP.l (sp_op (ov_ne R) (SP.l (sp_op (ov_ix R) (SP.l (sp_var 3 (by decide))) (SP.l (sp_c R rfl)))) (SP.l (sp_c R rfl)))))) (xt_of (XS.l (xs_op (ov_rnotIn R) (xl_c (SP.l (sp_op (ov_ix R) (SP.l (sp_var 3 (by decide))) (SP.l (sp_c R rfl))))) (xl_env (by simp)))))) (sx_seq (sx_asg (t := (.tp [4, 5])) (by simp [Tg.slots]) (xe_call2 (by simp) (by simp) (px__law_worked R 8) (sp_op (ov_ix R) (SP.l (sp_var 3 (by decide))) (SP.l (sp_neg (sp_c R rfl))))))
    (sx_seq (sx_if (xt_c (st_of (SP.l (sp_var 5 (by decide))))) (sx_ret (xe_s (xs_c (sp_tup (sa_cons (sp_c R rfl) (sa_cons (sp_var 4 (by decide)) sa_nil)))))) sx_nx)
    (sx_if (xt_c (st_of (SP.l (sp_op (ov_ne R) (SP.l (sp_op (ov_ix R) (SP.l (sp_var 3 (by decide))) (SP.l (sp_c R rfl)))) (SP.l (sp_c R rfl)))))) (sx_put2 R (by simp) (xs_c (sp_var 4 (by decide))) (xs_c (sp_op (ov_ix R) (SP.l (sp_var 3 (by decide))) (SP.l (sp_c R rfl))))) sx_nx))) sx_nx)))
end LK34

set_option Elab.async false
set_option linter.all false
set_option maxRecDepth 100000
set_option maxHeartbeats 4000000
namespace LK34
open PySem Al
def V__law_run (s : Sy) : List U → Option U := vRunX s (xB__law_run_seen s) 6
theorem pu__law_run {s : Sy} {r : Txt → Txt} {b : Bool} (R : Rn s r) : Pu r b C__law_run (V__law_run s) := by
  unfold C__law_run
  exact run_ok R (by decide) (fun n m => sxB__law_run_seen R) (by unfold C__law_run_seen; rfl)
end LK34

set_option Elab.async false
set_option linter.all false
set_option maxRecDepth 100000
set_option maxHeartbeats 4000000
namespace LK34
open PySem Al
def vB__law_rows (s : Sy)  : VS :=
  (vSeq (vSet 2 (vTup (vCons (vTup (vCons (vC s (.str [100, 114, 111, 112])) (vCons (vVar 0) vNil))) (vCons (vTup (vCons (vC s (.str [99, 104, 101, 99, 107])) (vCons (vTup (vCons (vTup (vCons (vVar 0) (vCons (vC s (.str [63])) (vCons (vTup (vCons (vC s (.str [120])) vNil)) vNil)))) vNil)) vNil))) vNil))))
    (vSeq (vSetO 3 (vLst (vCons (vTup (vCons (vTup vNil) (vCons (fun _ => some (.dct [] [])) (vCons (vLst (vCons (vC s (.bl false)) (vCons (vC s (.bl false)) vNil))) vNil)))) (vCons (vTup (vCons (vTup (vCons (vTup (vCons (vC s (.str [115, 101, 116])) (vCons (vVar 0) (vCons (vTup (vCons (vC s (.str [120])) vNil)) vNil)))) vNil)) (vCons (vDisp (vqCons (vVar 0) (vC s (.str [120])) vqNil)) (vCons (vLst (vCons (vC s (.bl true)) (vCons (vC s (.bl false)) vNil))) vNil)))) vNil))))
    (vSeq (vSetO 3 (vOpL s (vVar 3) (vLst (vCons (vTup (vCons (vTup (vCons (vTup (vCons (vC s (.str [115, 101, 116])) (vCons (vVar 0) (vCons (vTup vNil) vNil)))) vNil)) (vCons (vDisp (vqCons (vVar 0) (vC s (.str [])) vqNil)) (vCons (vLst (vCons (vC s (.bl false)) (vCons (vC s (.bl false)) vNil))) vNil)))) (vCons (vTup (vCons (vTup (vCons (vTup (vCons (vC s (.str [100, 114, 111, 112])) (vCons (vVar 0) vNil))) vNil)) (vCons (vDisp (vqCons (vVar 0) (vC s .non) vqNil)) (vCons (vLst (vCons (vC s (.bl false)) (vCons (vC s (.bl false)) vNil))) vNil)))) vNil)))))
    (vSeq (vSetO 3 (vOpL s (vVar 3) (vLst (vCons (vTup (vCons (vTup (vCons (vTup (vCons (vC s (.str [103, 105, 118, 101])) (vCons (vVar 0) (vCons (vTup (vCons (vC s (.str [120])) vNil)) vNil)))) vNil)) (vCons (fun _ => some (.dct [] [])) (vCons (vLst (vCons (vC s (.bl false)) (vCons (vC s (.bl false)) vNil))) vNil)))) (vCons (vTup (vCons (vVar 2) (vCons (fun _ => some (.dct [] [])) (vCons (vLst (vCons (vC s (.bl true)) (vCons (vC s (.bl true)) vNil))) vNil)))) vNil)))))
    (vSeq (vApp 3 (vTup (vCons (vTup (vCons (vTup (vCons (vC s (.str [115, 101, 116])) (vCons (vVar 0) (vCons (vTup (vCons (vTup (vCons (vVar 0) (vCons (vC s (.str [58, 45])) (vCons (vTup (vCons (vC s (.str [120])) vNil)) vNil)))) vNil)) vNil)))) vNil)) (vCons (fun _ => some (.dct [] [])) (vCons (vLst (vCons (vC s (.bl true)) (vCons (vC s (.bl false)) vNil))) vNil)))))
    (vSeq (vApp 3 (vTup (vCons (vTup (vCons (vTup (vCons (vC s (.str [115, 101, 116])) (vCons (vVar 1) (vCons (vTup (vCons (vTup (vCons (vVar 0) (vCons (vC s (.str [58, 43])) (vCons (vTup (vCons (vC s (.str [111, 110])) vNil)) vNil)))) vNil)) vNil)))) vNil)) (vCons (fun _ => some (.dct [] [])) (vCons (vLst (vCons (vC s (.bl false)) (vCons (vC s (.bl false)) vNil))) vNil)))))
    (vSeq (vApp 3 (vTup (vCons (vTup (vCons (vTup (vCons (vC s (.str [115, 101, 116])) (vCons (vVar 1) (vCons (vTup (vCons (vTup (vCons (vVar 0) (vCons (vC s (.str [58, 43])) (vCons (vTup (vCons (vC s (.str [111, 110])) vNil)) vNil)))) vNil)) vNil)))) (vCons (vTup (vCons (vC s (.str [115, 101, 116])) (vCons (vVar 1) (vCons (vTup (vCons (vTup (vCons (vVar 1) (vCons (vC s (.str [58, 45])) (vCons (vTup (vCons (vC s (.str [111, 110])) vNil)) vNil)))) vNil)) vNil)))) vNil))) (vCons (vDisp (vqCons (vVar 1) (vC s (.str [111, 110])) vqNil)) (vCons (vLst (vCons (vC s (.bl false)) (vCons (vC s (.bl true)) vNil))) vNil)))))
    (vSeq (vApp 3 (vTup (vCons (vTup (vCons (vTup (vCons (vC s (.str [99, 104, 101, 99, 107])) (vCons (vTup (vCons (vTup (vCons (vVar 0) (vCons (vC s (.str [63])) (vCons (vTup (vCons (vC s (.str [110, 111])) vNil)) vNil)))) vNil)) vNil))) (vCons (vTup (vCons (vC s (.str [115, 101, 116])) (vCons (vVar 1) (vCons (vTup (vCons (vTup (vCons (vVar 0) (vCons (vC s (.str [43])) (vCons (vTup (vCons (vC s (.str [121])) vNil)) vNil)))) vNil)) vNil)))) vNil))) (vCons (vDisp (vqCons (vVar 1) (vC s (.str [121])) vqNil)) (vCons (vLst (vCons (vC s (.bl false)) (vCons (vC s (.bl true)) vNil))) vNil)))))
    (vSeq (vApp 3 (vTup (vCons (vTup (vCons (vTup (vCons (vC s (.str [99, 104, 101, 99, 107])) (vCons (vTup (vCons (vTup (vCons (vVar 0) (vCons (vC s (.str [58, 63])) (vCons (vTup (vCons (vC s (.str [110, 111])) vNil)) vNil)))) vNil)) vNil))) vNil)) (vCons (fun _ => some (.dct [] [])) (vCons (vLst (vCons (vC s (.bl true)) (vCons (vC s (.bl false)) vNil))) vNil)))))
    (vSeq (vApp 3 (vTup (vCons (vTup (vCons (vTup (vCons (vC s (.str [100, 114, 111, 112])) (vCons (vVar 0) vNil))) (vCons (vTup (vCons (vC s (.str [99, 104, 101, 99, 107])) (vCons (vTup (vCons (vTup (vCons (vVar 0) (vCons (vC s (.str [61])) (vCons (vTup (vCons (vC s (.str [122])) vNil)) vNil)))) vNil)) vNil))) vNil))) (vCons (vDisp (vqCons (vVar 0) (vC s (.str [122])) vqNil)) (vCons (vLst (vCons (vC s (.bl true)) (vCons (vC s (.bl false)) vNil))) vNil)))))
    (vSeq (vApp 3 (vTup (vCons (vTup (vCons (vTup (vCons (vC s (.str [115, 101, 116])) (vCons (vVar 0) (vCons (vTup (vCons (vTup (vCons (vVar 1) (vCons (vC s (.str [])) (vCons (vTup vNil) vNil)))) vNil)) vNil)))) (vCons (vTup (vCons (vC s (.str [100, 114, 111, 112])) (vCons (vVar 1) vNil))) vNil))) (vCons (vDisp (vqCons (vVar 1) (vC s .non) vqNil)) (vCons (vLst (vCons (vC s (.bl false)) (vCons (vC s (.bl false)) vNil))) vNil)))))
    (vSeq (vApp 3 (vTup (vCons (vTup (vCons (vTup (vCons (vC s (.str [115, 101, 116])) (vCons (vVar 0) (vCons (vTup (vCons (vC s (.str [120])) (vCons (vTup (vCons (vVar 1) (vCons (vC s (.str [])) (vCons (vTup vNil) vNil)))) vNil))) vNil)))) (vCons (vTup (vCons (vC s (.str [115, 101, 116])) (vCons (vVar 1) (vCons (vTup (vCons (vC s (.str [49])) vNil)) vNil)))) vNil))) (vCons (vDisp (vqCons (vVar 1) (vC s (.str [49])) vqNil)) (vCons (vLst (vCons (vC s (.bl true)) (vCons (vC s (.bl true)) vNil))) vNil)))))
    (vSeq (vApp 3 (vTup (vCons (vTup (vCons (vTup (vCons (vC s (.str [99, 104, 101, 99, 107])) (vCons (vTup (vCons (vTup (vCons (vVar 0) (vCons (vC s (.str [43])) (vCons (vTup (vCons (vTup (vCons (vVar 1) (vCons (vC s (.str [63])) (vCons (vTup vNil) vNil)))) vNil)) vNil)))) vNil)) vNil))) (vCons (vTup (vCons (vC s (.str [100, 114, 111, 112])) (vCons (vVar 0) vNil))) vNil))) (vCons (vDisp (vqCons (vVar 0) (vC s .non) vqNil)) (vCons (vLst (vCons (vC s (.bl false)) (vCons (vC s (.bl false)) vNil))) vNil)))))
    (vSeq (vSet 4 (vTup (vCons (vC s (.str [99, 104, 101, 99, 107])) (vCons (vTup (vCons (vTup (vCons (vVar 0) (vCons (vC s (.str [43])) (vCons (vTup (vCons (vTup (vCons (vVar 1) (vCons (vC s (.str [63])) (vCons (vTup (vCons (vC s (.str [110, 111])) vNil)) vNil)))) vNil)) vNil)))) vNil)) vNil))))
    (vSeq (vApp 3 (vTup (vCons (vTup (vCons (vTup (vCons (vC s (.str [100, 114, 111, 112])) (vCons (vVar 1) vNil))) (vCons (vVar 4) vNil))) (vCons (vDisp (vqCons (vVar 0) (vC s .non) (vqCons (vVar 1) (vC s .non) vqNil))) (vCons (vLst (vCons (vC s (.bl false)) (vCons (vC s (.bl false)) vNil))) vNil)))))
    (vSeq (vApp 3 (vTup (vCons (vTup (vCons (vTup (vCons (vC s (.str [99, 104, 101, 99, 107])) (vCons (vTup (vCons (vTup (vCons (vVar 0) (vCons (vC s (.str [58, 61])) (vCons (vTup (vCons (vC s (.str [120])) vNil)) vNil)))) vNil)) vNil))) (vCons (vTup (vCons (vC s (.str [103, 105, 118, 101])) (vCons (vVar 1) (vCons (vTup (vCons (vC s (.str [121])) vNil)) vNil)))) vNil))) (vCons (fun _ => some (.dct [] [])) (vCons (vLst (vCons (vC s (.bl true)) (vCons (vC s (.bl false)) vNil))) vNil)))))
    (vSeq (vApp 3 (vTup (vCons (vTup (vCons (vTup (vCons (vC s (.str [99, 104, 101, 99, 107])) (vCons (vTup (vCons (vTup (vCons (vVar 0) (vCons (vC s (.str [58, 61])) (vCons (vTup vNil) vNil)))) vNil)) vNil))) vNil)) (vCons (fun _ => some (.dct [] [])) (vCons (vLst (vCons (vC s (.bl false)) (vCons (vC s (.bl false)) vNil))) vNil)))))
    (vRet (vOp (addV s) (vVar 3) (vLst (vCons (vTup (vCons (vOp (addV s) (vVar 2) (vTup (vCons (vTup (vCons (vC s (.str [115, 101, 116])) (vCons (vVar 1) (vCons (vTup (vCons (vC s (.str [121])) vNil)) vNil)))) vNil))) (vCons (fun _ => some (.dct [] [])) (vCons (vLst (vCons (vC s (.bl true)) (vCons (vC s (.bl true)) vNil))) vNil)))) vNil)))))))))))))))))))))
def V__law_rows (s : Sy) : List U → Option U := vBody 5 (vB__law_rows s)
theorem pu__law_rows {s : Sy} {r : Txt → Txt} {b : Bool} (R : Rn s r) : Pu r b C__law_rows (V__law_rows s) := by
  unfold C__law_rows
  exact pu_body (own' := []) (ss_seq (own1 := []) (ss_set 2 (by decide) (sp_tup (sa_cons (sp_tup (sa_cons (sp_c R rfl) (sa_cons (sp_var 0 (by decide)) sa_nil))) (sa_cons (sp_tup (sa_cons (sp_c R rfl) (sa_cons (sp_tup (sa_cons (sp_tup (sa_cons (sp_var 0 (by decide)) (sa_cons (sp_c R rfl) (sa_cons (sp_tup (sa_cons (sp_c R rfl) sa_nil)) sa_nil)))) sa_nil)) sa_nil))) sa_nil))))
    (ss_seq (own1 := [3]) (ss_own 3 (by decide) (sf_lst (sa_cons (sp_tup (sa_cons (sp_tup sa_nil) (sa_cons sp_d0 (sa_cons (sp_lst (sa_cons (sp_c R rfl) (sa_cons (sp_c R rfl) sa_nil))) sa_nil)))) (sa_cons (sp_tup (sa_cons (sp_tup (sa_cons (sp_tup (sa_cons (sp_c R rfl) (sa_cons (sp_var 0 (by decide)) (sa_cons (sp_tup (sa_cons (sp_c R rfl) sa_nil)) sa_nil)))) sa_nil)) (sa_cons (sp_disp R (sq_cons (sp_var 0 (by decide)) (sp_c R rfl) sq_nil)) (sa_cons (sp_lst (sa_cons (sp_c R rfl) (sa_cons (sp_c R rfl) sa_nil))) sa_nil)))) sa_nil))))
    (ss_seq (own1 := [3]) (ss_rel (own1 := []) (by decide) (ss_own 3 (by decide) (sf_add R (SP.l (sp_var 3 (by decide))) (SP.l (sp_lst (sa_cons (sp_tup (sa_cons (sp_tup (sa_cons (sp_tup (sa_cons (sp_c R rfl) (sa_cons (sp_var 0 (by decide)) (sa_cons (sp_tup sa_nil) sa_nil)))) sa_nil)) (sa_cons (sp_disp R (sq_cons (sp_var 0 (by decide)) (sp_c R rfl) sq_nil)) (sa_cons (sp_lst (sa_cons (sp_c R rfl) (sa_cons (sp_c R rfl) sa_nil))) sa_nil)))) (sa_cons (sp_tup (sa_cons (sp_tup (sa_cons (sp_tup (sa_cons (sp_c R rfl) (sa_cons (sp_var 0 (by decide)) sa_nil))) sa_nil)) (sa_cons (sp_disp R (sq_cons (sp_var 0 (by decide)) (sp_c R rfl) sq_nil)) (sa_cons (sp_lst (sa_cons (sp_c R rfl) (sa_cons (sp_c R rfl) sa_nil))) sa_nil)))) sa_nil)))))))
    (ss_seq (own1 := [3]) (ss_rel (own1 := []) (by decide) (ss_own 3 (by decide) (sf_add R (SP.l (sp_var 3 (by decide))) (SP.l (sp_lst (sa_cons (sp_tup (sa_cons (sp_tup (sa_cons (sp_tup (sa_cons (sp_c R rfl) (sa_cons (sp_var 0 (by decide)) (sa_cons (sp_tup (sa_cons (sp_c R rfl) sa_nil)) sa_nil)))) sa_nil)) (sa_cons sp_d0 (sa_cons (sp_lst (sa_cons (sp_c R rfl) (sa_cons (sp_c R rfl) sa_nil))) sa_nil)))) (sa_cons (sp_tup (sa_cons (sp_var 2 (by decide)) (sa_cons sp_d0 (sa_cons (sp_lst (sa_cons (sp_c R rfl) (sa_cons (sp_c R rfl) sa_nil))) sa_nil)))) sa_nil)))))))
    (ss_seq (own1 := [3]) (ss_app 3 (by decide) (sp_tup (sa_cons (sp_tup (sa_cons (sp_tup (sa_cons (sp_c R rfl) (sa_cons (sp_var 0 (by decide)) (sa_cons (sp_tup (sa_cons (sp_tup (sa_cons (sp_var 0 (by decide)) (sa_cons (sp_c R rfl) (sa_cons (sp_tup (sa_cons (sp_c R rfl) sa_nil)) sa_nil)))) sa_nil)) sa_nil)))) sa_nil)) (sa_cons sp_d0 (sa_cons (sp_lst (sa_cons (sp_c R rfl) (sa_cons (sp_c R rfl) sa_nil))) sa_nil)))))
    (ss_seq (own1 := [3]) (ss_app 3 (by decide) (sp_tup (sa_cons (sp_tup (sa_cons (sp_tup (sa_cons (sp_c R rfl) (sa_cons (sp_var 1 (by decide)) (sa_cons (sp_tup (sa_cons (sp_tup (sa_cons (sp_var 0 (by decide)) (sa_cons (sp_c R rfl) (sa_cons (sp_tup (sa_cons (sp_c R rfl) sa_nil)) sa_nil)))) sa_nil)) sa_nil)))) sa_nil)) (sa_cons sp_d0 (sa_cons (sp_lst (sa_cons (sp_c R rfl) (sa_cons (sp_c R rfl) sa_nil))) sa_nil)))))
    (ss_seq (own1 := [3]) (ss_app 3 (by decide) (sp_tup (sa_cons (sp_tup (sa_cons (sp_tup (sa_cons (sp_c R rfl) (sa_cons (sp_var 1 (by decide)) (sa_cons (sp_tup (sa_cons (sp_tup (sa_cons (sp_var 0 (by decide)) (sa_cons (sp_c R rfl) (sa_cons (sp_tup (sa_cons (sp_c R rfl) sa_nil)) sa_nil)))) sa_nil)) sa_nil)))) (sa_cons (sp_tup (sa_cons (sp_c R rfl) (sa_cons (sp_var 1 (by decide)) (sa_cons (sp_tup (sa_cons (sp_tup (sa_cons (sp_var 1 (by decide)) (sa_cons (sp_c R rfl) (sa_cons (sp_tup (sa_cons (sp_c R rfl) sa_nil)) sa_nil)))) sa_nil)) sa_nil)))) sa_nil))) (sa_cons (sp_disp R (sq_cons (sp_var 1 (by decide)) (sp_c R rfl) sq_nil)) (sa_cons (sp_lst (sa_cons (sp_c R rfl) (sa_cons (sp_c R rfl) sa_nil))) sa_nil)))))
    (ss_seq (own1 := [3]) (ss_app 3 (by decide) (sp_tup (sa_cons (sp_tup (sa_cons (sp_tup (sa_cons (sp_c R rfl) (sa_cons (sp_tup (sa_cons (sp_tup (sa_cons (sp_var 0 (by decide)) (sa_cons (sp_c R rfl) (sa_cons (sp_tup (sa_cons (sp_c R rfl) sa_nil)) sa_nil)))) sa_nil)) sa_nil))) (sa_cons (sp_tup (sa_cons (sp_c R rfl) (sa_cons (sp_var 1 (by decide)) (sa_cons (sp_tup (sa_cons (sp_tup (sa_cons (sp_var 0 (by decide)) (sa_cons (sp_c R rfl) (sa_cons (sp_tup (sa_cons (sp_c R rfl) sa_nil)) sa_nil)))) sa_nil)) sa_nil)))) sa_nil))) (sa_cons (sp_disp R (sq_cons (sp_var 1 (by decide)) (sp_c R rfl) sq_nil)) (sa_cons (sp_lst (sa_cons (sp_c R rfl) (sa_cons (sp_c R rfl) sa_nil))) sa_nil)))))
    (ss_seq (own1 := [3]) (ss_app 3 (by decide) (sp_tup (sa_cons (sp_tup (sa_cons (sp_tup (sa_cons (sp_c R rfl) (sa_cons (sp_tup (sa_cons (sp_tup (sa_cons (sp_var 0 (by decide)) (sa_cons (sp_c R rfl) (sa_cons (sp_tup (sa_cons (sp_c R rfl) sa_nil)) sa_nil)))) sa_nil)) sa_nil))) sa_nil)) (sa_cons sp_d0 (sa_cons (sp_lst (sa_cons (sp_c R rfl) (sa_cons (sp_c R rfl) sa_nil))) sa_nil)))))
    (ss_seq (own1 := [3]) (ss_app 3 (by decide) (sp_tup (sa_cons (sp_tup (sa_cons (sp_tup (sa_cons (sp_c R rfl) (sa_cons (sp_var 0 (by decide)) sa_nil))) (sa_cons (sp_tup (sa_cons (sp_c R rfl) (sa_cons (sp_tup (sa_cons (sp_tup (sa_cons (sp_var 0 (by decide)) (sa_cons (sp_c R rfl) (sa_cons (sp_tup (sa_cons (sp_c R rfl) sa_nil)) sa_nil)))) sa_nil)) sa_nil))) sa_nil))) (sa_cons (sp_disp R (sq_cons (sp_var 0 (by decide)) (sp_c R rfl) sq_nil)) (sa_cons (sp_lst (sa_cons (sp_c R rfl) (sa_cons (sp_c R rfl) sa_nil))) sa_nil)))))
    (ss_seq (own1 := [3]) (ss_app 3 (by decide) (sp_tup (sa_cons (sp_tup (sa_cons (sp_tup (sa_cons (sp_c R rfl) (sa_cons (sp_var 0 (by decide)) (sa_cons (sp_tup (sa_cons (sp_tup (sa_cons (sp_var 1 (by decide)) (sa_cons (sp_c R rfl) (sa_cons (sp_tup sa_nil) sa_nil)))) sa_nil)) sa_nil)))) (sa_cons (sp_tup (sa_cons (sp_c R rfl) (sa_cons (sp_var 1 (by decide)) sa_nil))) sa_nil))) (sa_cons (sp_disp R (sq_cons (sp_var 1 (by decide)) (sp_c R rfl) sq_nil)) (sa_cons (sp_lst (sa_cons (sp_c R rfl) (sa_cons (sp_c R rfl) sa_nil))) sa_nil)))))
    (ss_seq (own1 := [3]) (ss_app 3 (by decide) (sp_tup (sa_cons (sp_tup (sa_cons (sp_tup (sa_cons (sp_c R rfl) (sa_cons (sp_var 0 (by decide)) (sa_cons (sp_tup (sa_cons (sp_c R rfl) (sa_cons (sp_tup (sa_cons (sp_var 1 (by decide)) (sa_cons (sp_c R rfl) (sa_cons (sp_tup sa_nil) sa_nil)))) sa_nil))) sa_nil)))) (sa_cons (sp_tup (sa_cons (sp_c R rfl) (sa_cons (sp_var 1 (by decide)) (sa_cons (sp_tup (sa_cons (sp_c R rfl) sa_nil)) sa_nil)))) sa_nil))) (sa_cons (sp_disp R (sq_cons (sp_var 1 (by decide)) (sp_c R rfl) sq_nil)) (sa_cons (sp_lst (sa_cons (sp_c R rfl) (sa_cons (sp_c R rfl) sa_nil))) sa_nil)))))
    (ss_seq (own1 := [3]) (ss_app 3 (by decide) (sp_tup (sa_cons (sp_tup (sa_cons (sp_tup (sa_cons (sp_c R rfl) (sa_cons (sp_tup (sa_cons (sp_tup (sa_cons (sp_var 0 (by decide)) (sa_cons (sp_c R rfl) (sa_cons (sp_tup (sa_cons (sp_tup (sa_cons (sp_var 1 (by decide)) (sa_cons (sp_c R rfl) (sa_cons (sp_tup sa_nil) sa_nil)))) sa_nil)) sa_nil)))) sa_nil)) sa_nil))) (sa_cons (sp_tup (sa_cons (sp_c R rfl) (sa_cons (sp_var 0 (by decide)) sa_nil))) sa_nil))) (sa_cons (sp_disp R (sq_cons (sp_var 0 (by decide)) (sp_c R rfl) sq_nil)) (sa_cons (sp_lst (sa_cons (sp_c R rfl) (sa_cons (sp_c R rfl) sa_nil))) sa_nil)))))
    (ss_seq (own1 := [3]) (ss_set 4 (by decide) (sp_tup (sa_cons (sp_c R rfl) (sa_cons (sp_tup (sa_cons (sp_tup (sa_cons (sp_var 0 (by decide)) (sa_cons (sp_c R rfl) (sa_cons (sp_tup (sa_cons (sp_tup (sa_cons (sp_var 1 (by decide)) (sa_cons (sp_c R rfl) (sa_cons (sp_tup (sa_cons (sp_c R rfl) sa_nil)) sa_nil)))) sa_nil)) sa_nil)))) sa_nil)) sa_nil))))
    (ss_seq (own1 := [3]) (ss_app 3 (by decide) (sp_tup (sa_cons (sp_tup (sa_cons (sp_tup (sa_cons (sp_c R rfl) (sa_cons (sp_var 1 (by decide)) sa_nil))) (sa_cons (sp_var 4 (by decide)) sa_nil))) (sa_cons (sp_disp R (sq_cons (sp_var 0 (by decide)) (sp_c R rfl) (sq_cons (sp_var 1 (by decide)) (sp_c R rfl) sq_nil))) (sa_cons (sp_lst (sa_cons (sp_c R rfl) (sa_cons (sp_c R rfl) sa_nil))) sa_nil)))))
    (ss_seq (own1 := [3]) (ss_app 3 (by decide) (sp_tup (sa_cons (sp_tup (sa_cons (sp_tup (sa_cons (sp_c R rfl) (sa_cons (sp_tup (sa_cons (sp_tup (sa_cons (sp_var 0 (by decide)) (sa_cons (sp_c R rfl) (sa_cons (sp_tup (sa_cons (sp_c R rfl) sa_nil)) sa_nil)))) sa_nil)) sa_nil))) (sa_cons (sp_tup (sa_cons (sp_c R rfl) (sa_cons (sp_var 1 (by decide)) (sa_cons (sp_tup (sa_cons (sp_c R rfl) sa_nil)) sa_nil)))) sa_nil))) (sa_cons sp_d0 (sa_cons (sp_lst (sa_cons (sp_c R rfl) (sa_cons (sp_c R rfl) sa_nil))) sa_nil)))))
    (ss_seq (own1 := [3]) (ss_app 3 (by decide) (sp_tup (sa_cons (sp_tup (sa_cons (sp_tup (sa_cons (sp_c R rfl) (sa_cons (sp_tup (sa_cons (sp_tup (sa_cons (sp_var 0 (by decide)) (sa_cons (sp_c R rfl) (sa_cons (sp_tup sa_nil) sa_nil)))) sa_nil)) sa_nil))) sa_nil)) (sa_cons sp_d0 (sa_cons (sp_lst (sa_cons (sp_c R rfl) (sa_cons (sp_c R rfl) sa_nil))) sa_nil)))))
    (ss_ret (sp_op (ov_add R) (sl_var 3) (SP.l (sp_lst (sa_cons (sp_tup (sa_cons (sp_op (ov_add R) (SP.l (sp_var 2 (by decide))) (SP.l (sp_tup (sa_cons (sp_tup (sa_cons (sp_c R rfl) (sa_cons (sp_var 1 (by decide)) (sa_cons (sp_tup (sa_cons (sp_c R rfl) sa_nil)) sa_nil)))) sa_nil)))) (sa_cons sp_d0 (sa_cons (sp_lst (sa_cons (sp_c R rfl) (sa_cons (sp_c R rfl) sa_nil))) sa_nil)))) sa_nil))))))))))))))))))))))
def vB__law_shown (s : Sy)  : VS :=
  (vSeq (vSIf (vTOr (vTNot (vT (vIsi isTup (vVar 2)))) (vT (vOp (neV s) (vCall (lenV s) (vCons (vVar 2) vNil)) (vC s (.int 2))))) (vRet (vC s (.bl false))) vNx)
    (vSeq (vSet 3 (vLc (vIt s (vVar 2)) (.nm 4) (fun _ => some true) (vCallD (V__law_run s) (vCons (vVar 4) (vCons (vVar 0) vNil))) [4]))
    (vRet (vAnd (vOp (eqV s) (vLc (vIt s (vVar 3)) (.nm 5) (fun _ => some true) (vOp (ixV s) (vVar 5) (vC s (.int 0))) [5]) (vOp repV (vLst (vCons (vC s (.str [100, 111, 110, 101])) vNil)) (vC s (.int 2)))) (vOp (neV s) (vGet1 (vOp (ixV s) (vOp (ixV s) (vVar 3) (vC s (.int 0))) (vC s (.int 1))) (vVar 1)) (vGet1 (vOp (ixV s) (vOp (ixV s) (vVar 3) (vC s (.int 1))) (vC s (.int 1))) (vVar 1)))))))
def V__law_shown (s : Sy) : List U → Option U := vBody 6 (vB__law_shown s)
theorem pu__law_shown {s : Sy} {r : Txt → Txt} {b : Bool} (R : Rn s r) : Pu r b C__law_shown (V__law_shown s) := by
  unfold C__law_shown
  exact pu_body (own' := []) (ss_seq (own1 := []) (ss_if (st_or (st_not (st_of (SP.l (sp_isi (SP.l (sp_var 2 (by decide))))))) (st_of (SP.l (sp_op (ov_ne R) (SP.l (sp_call (cv_len R) (sal_cons (SP.l (sp_var 2 (by decide))) sal_nil))) (SP.l (sp_c R rfl)))))) (ss_ret (sp_c R rfl)) ss_nx)
    (ss_seq (own1 := []) (ss_set 3 (by decide) (sp_lc (si_val R (sp_var 2 (by decide))) (by decide) (by decide) st_yes (sp_callD (pu__law_run R) (sa_cons (sp_var 4 (by decide)) (sa_cons (sp_var 0 (by decide)) sa_nil)))))
    (ss_ret (sp_and (sp_op (ov_eq R) (SP.l (sp_lc (si_val R (sp_var 3 (by decide))) (by decide) (by decide) st_yes (sp_op (ov_ix R) (SP.l (sp_var 5 (by decide))) (SP.l (sp_c R rfl))))) (SP.l (sp_op ov_rep (SP.l (sp_lst (sa_cons (sp_c R rfl) sa_nil))) (SP.l (sp_c R rfl))))) (sp_op (ov_ne R) (SP.l (sp_get1 R (SP.l (sp_op (ov_ix R) (SP.l (sp_op (ov_ix R) (SP.l (sp_var 3 (by decide))) (SP.l (sp_c R rfl)))) (SP.l (sp_c R rfl)))) (SP.l (sp_var 1 (by decide))))) (SP.l (sp_get1 R (SP.l (sp_op (ov_ix R) (SP.l (sp_op (ov_ix R) (SP.l (sp_var 3 (by decide))) (SP.l (sp_c R rfl)))) (SP.l (sp_c R rfl)))) (SP.l (sp_var 1 (by decide))))))))))
def vB__law_broken (s : Sy)  : VS :=
  (vSeq (vSIf (vTOr (vTNot (vT (vIsi isTup (vVar 2)))) (vTOr (vT (vOp (neV s) (vCall (lenV s) (vCons (vVar 2) vNil)) (vC s (.int 2)))) (vTOr (vT (vOp (neV s) (vCall (lenV s) (vCons (vOp (ixV s) (vVar 2) (vC s (.int 0))) vNil)) (vC s (.int 1)))) (vT (vOp (notInV s) (vOp (ixV s) (vOp (ixV s) (vOp (ixV s) (vVar 2) (vC s (.int 0))) (vC s (.int 0))) (vC s (.int 0))) (vTup (vCons (vC s (.str [103, 105, 118, 101])) (vCons (vC s (.str [99, 104, 101, 99, 107])) vNil)))))))) (vRet (vC s (.bl false))) vNx)
    (vSeq (vPar 3 4 (vCons (vCallD (V__law_run s) (vCons (vOp (ixV s) (vVar 2) (vC s (.int 1))) (vCons (vVar 0) vNil))) (vCons (vCallD (V__law_run s) (vCons (vOp (ixV s) (vVar 2) (vC s (.int 1))) (vCons (vOp (addV s) (vVar 0) (vOp (ixV s) (vVar 2) (vC s (.int 0)))) vNil))) vNil)))
    (vRet (vAnd (vOp (eqV s) (vLst (vCons (vOp (ixV s) (vVar 3) (vC s (.int 0))) (vCons (vOp (ixV s) (vVar 4) (vC s (.int 0))) vNil))) (vOp repV (vLst (vCons (vC s (.str [100, 111, 110, 101])) vNil)) (vC s (.int 2)))) (vOp (neV s) (vGet1 (vOp (ixV s) (vVar 3) (vC s (.int 1))) (vVar 1)) (vGet1 (vOp (ixV s) (vVar 4) (vC s (.int 1))) (vVar 1)))))))
def V__law_broken (s : Sy) : List U → Option U := vBody 5 (vB__law_broken s)
theorem pu__law_broken {s : Sy} {r : Txt → Txt} {b : Bool} (R : Rn s r) : Pu r b C__law_broken (V__law_broken s) := by
  unfold C__law_broken
  exact pu_body (own' := []) (ss_seq (own1 := []) (ss_if (st_or (st_not (st_of (SP.l (sp_isi (SP.l (sp_var 2 (by decide))))))) (st_or (st_of (SP.l (sp_op (ov_ne R) (SP.l (sp_call (cv_len R) (sal_cons (SP.l (sp_var 2 (by decide))) sal_nil))) (SP.l (sp_c R rfl))))) (st_or (st_of (SP.l (sp_op (ov_ne R) (SP.l (sp_call (cv_len R) (sal_cons (SP.l (sp_op (ov_ix R) (SP.l (sp_var 2 (by decide))) (SP.l (sp_c R rfl)))) sal_nil))) (SP.l (sp_c R rfl))))) (st_of (SP.l (sp_op (ov_notIn R) (SP.l (sp_op (ov_ix R) (SP.l (sp_op (ov_ix R) (SP.l (sp_op (ov_ix R) (SP.l (sp_var 2 (by decide))) (SP.l (sp_c R rfl)))) (SP.l (sp_c R rfl)))) (SP.l (sp_c R rfl)))) (SP.l (sp_tup (sa_cons (sp_c R rfl) (sa_cons (sp_c R rfl) sa_nil)))))))))) (ss_ret (sp_c R rfl)) ss_nx)
    (ss_seq (own1 := []) (ss_par (i := 3) (j := 4) (by decide) (by decide) (sa_cons (sp_callD (pu__law_run R) (sa_cons (sp_op (ov_ix R) (SP.l (sp_var 2 (by decide))) (SP.l (sp_c R rfl))) (sa_cons (sp_var 0 (by decide)) sa_nil))) (sa_cons (sp_callD (pu__law_run R) (sa_cons (sp_op (ov_ix R) (SP.l (sp_var 2 (by decide))) (SP.l (sp_c R rfl))) (sa_cons (sp_op (ov_add R) (SP.l (sp_var 0 (by decide))) (SP.l (sp_op (ov_ix R) (SP.l (sp_var 2 (by decide))) (SP.l (sp_c R rfl))))) sa_nil))) sa_nil)))
    (ss_ret (sp_and (sp_op (ov_eq R) (SP.l (sp_lst (sa_cons (sp_op (ov_ix R) (SP.l (sp_var 3 (by decide))) (SP.l (sp_c R rfl))) (sa_cons (sp_op (ov_ix R) (SP.l (sp_var 4 (by decide))) (SP.l (sp_c R rfl))) sa_nil)))) (SP.l (sp_op ov_rep (SP.l (sp_lst (sa_cons (sp_c R rfl) sa_nil))) (SP.l (sp_c R rfl))))) (sp_op (ov_ne R) (SP.l (sp_get1 R (SP.l (sp_op (ov_ix R) (SP.l (sp_var 3 (by decide))) (SP.l (sp_c R rfl)))) (SP.l (sp_var 1 (by decide))))) (SP.l (sp_get1 R (SP.l (sp_op (ov_ix R) (SP.l (sp_var 4 (by decide))) (SP.l (sp_c R rfl)))) (SP.l (sp_var 1 (by decide))))))))))
def vB__law_right (s : Sy)  : VS :=
  (vSeq (vSIf (vTOr (vT (vOp (dneV s) (vCallD (V_fixed s) (vCons (vVar 0) vNil)) (vVar 2))) (vTOr (vT (vOp (neV s) (vCall listDV (vCons (vCallD (V_fixed s) (vCons (vVar 0) vNil)) vNil)) (vCall (sortedDV s) (vCons (vVar 2) vNil)))) (vT (vOp (neV s) (vLc (vIt s (vVar 1)) (.nm 5) (fun _ => some true) (vCallD (V_lasts s) (vCons (vVar 0) (vCons (vVar 5) vNil))) [5]) (vVar 3))))) (vRet (vC s (.bl false))) vNx)
    (vSeq (vSet 4 (vAnd (vOp (eqV s) (vVar 3) (vLst (vCons (vC s (.bl true)) (vCons (vC s (.bl true)) vNil)))) (vOp (deqV s) (vVar 2) (fun _ => some (.dct [] [])))))
    (vSeq (vFor (vZip (vVar 1) (vVar 3)) (.tp [5, 6]) (vSeq (vPar 7 8 (vCons (vCallD (V_unfixed s) (vCons (vVar 0) (vCons (vVar 5) vNil))) (vCons (vCallD (V_breaker s) (vCons (vVar 0) (vCons (vVar 5) vNil))) vNil)))
    (vSeq (vSIf (vTOr (vT (vOp (neV s) (vOp isV (vVar 7) (vC s .non)) (vOr (vOp rinV (vVar 5) (vVar 2)) (vVar 4)))) (vT (vOp (neV s) (vOp isV (vVar 8) (vC s .non)) (vVar 6)))) (vRet (vC s (.bl false))) vNx)
    (vSeq (vSIf (vTAnd (vT (vOp isNotV (vVar 7) (vC s .non))) (vTNot (vT (vCallD (V__law_shown s) (vCons (vVar 0) (vCons (vVar 5) (vCons (vVar 7) vNil))))))) (vRet (vC s (.bl false))) vNx)
    (vSIf (vTAnd (vT (vOp isNotV (vVar 8) (vC s .non))) (vTNot (vT (vCallD (V__law_broken s) (vCons (vVar 0) (vCons (vVar 5) (vCons (vVar 8) vNil))))))) (vRet (vC s (.bl false))) vNx)))))
    (vRet (vC s (.bl true))))))
def V__law_right (s : Sy) : List U → Option U := vBody 9 (vB__law_right s)
theorem pu__law_right {s : Sy} {r : Txt → Txt} (R : Rn s r) : Pu r true C__law_right (V__law_right s) := by
  unfold C__law_right
  exact pu_body (own' := []) (ss_seq (own1 := []) (ss_if (st_or (st_of (SP.l (sp_op (ov_dne R) (SP.l (sp_callD (pu_fixed R) (sa_cons (sp_var 0 (by decide)) sa_nil))) (SP.l (sp_var 2 (by decide)))))) (st_or (st_of (SP.l (sp_op (ov_ne R) (SP.l (sp_call cv_listD (sal_cons (SP.l (sp_callD (pu_fixed R) (sa_cons (sp_var 0 (by decide)) sa_nil))) sal_nil))) (SP.l (sp_call (cv_sortedD R) (sal_cons (SP.l (sp_var 2 (by decide))) sal_nil)))))) (st_of (SP.l (sp_op (ov_ne R) (SP.l (sp_lc (si_val R (sp_var 1 (by decide))) (by decide) (by decide) st_yes (sp_callD (pu_lasts R) (sa_cons (sp_var 0 (by decide)) (sa_cons (sp_var 5 (by decide)) sa_nil))))) (SP.l (sp_var 3 (by decide)))))))) (ss_ret (sp_c R rfl)) ss_nx)
    (ss_seq (own1 := []) (ss_set 4 (by decide) (sp_and (sp_op (ov_eq R) (SP.l (sp_var 3 (by decide))) (SP.l (sp_lst (sa_cons (sp_c R rfl) (sa_cons (sp_c R rfl) sa_nil))))) (sp_op (ov_deq R) (SP.l (sp_var 2 (by decide))) (SP.l sp_d0))))
    (ss_seq (own1 := []) (ss_for (t := (.tp [5, 6])) (si_zip (sp_var 1 (by decide)) (sp_var 3 (by decide))) (by decide) (ss_seq (own1 := []) (ss_par (i := 7) (j := 8) (by decide) (by decide) (sa_cons (sp_callD (pu_unfixed R) (sa_cons (sp_var 0 (by decide)) (sa_cons (sp_var 5 (by decide)) sa_nil))) (sa_cons (sp_callD (pu_breaker R) (sa_cons (sp_var 0 (by decide)) (sa_cons (sp_var 5 (by decide)) sa_nil))) sa_nil)))
    (ss_seq (own1 := []) (ss_if (st_or (st_of (SP.l (sp_op (ov_ne R) (SP.l (sp_op ov_is (SP.l (sp_var 7 (by decide))) (SP.l (sp_c R rfl)))) (SP.l (sp_or (sp_op (ov_rin R) (SP.l (sp_var 5 (by decide))) (SP.l (sp_var 2 (by decide)))) (sp_var 4 (by decide))))))) (st_of (SP.l (sp_op (ov_ne R) (SP.l (sp_op ov_is (SP.l (sp_var 8 (by decide))) (SP.l (sp_c R rfl)))) (SP.l (sp_var 6 (by decide))))))) (ss_ret (sp_c R rfl)) ss_nx)
    (ss_seq (own1 := []) (ss_if (st_and (st_of (SP.l (sp_op ov_isNot (SP.l (sp_var 7 (by decide))) (SP.l (sp_c R rfl))))) (st_not (st_of (SP.l (sp_callD (pu__law_shown R) (sa_cons (sp_var 0 (by decide)) (sa_cons (sp_var 5 (by decide)) (sa_cons (sp_var 7 (by decide)) sa_nil)))))))) (ss_ret (sp_c R rfl)) ss_nx)
    (ss_if (st_and (st_of (SP.l (sp_op ov_isNot (SP.l (sp_var 8 (by decide))) (SP.l (sp_c R rfl))))) (st_not (st_of (SP.l (sp_callD (pu__law_broken R) (sa_cons (sp_var 0 (by decide)) (sa_cons (sp_var 5 (by decide)) (sa_cons (sp_var 8 (by decide)) sa_nil)))))))) (ss_ret (sp_c R rfl)) ss_nx)))))
    (ss_ret (sp_c R rfl)))))
end LK34

set_option Elab.async false
set_option linter.all false
set_option maxRecDepth 100000
set_option maxHeartbeats 1000000
namespace LK34
open Al
/-! ### draws -/
theorem small_of {i : Int} (h0 : 0 ≤ i) (h1 : i < 1000000000000000) : smallI i = true := by
  unfold smallI
  simp
  omega
theorem mixed_ok {c k : Int} {S : Store} (h0 : 0 ≤ k) (h1 : k < 1000000) : Ends (C__law_mixed [.int c, .int k] S) fun d S' => S' = S ∧ ∃ v : Int, d = .int v ∧ 0 ≤ v ∧ v < 2147483629 := by
  have c0 : 0 ≤ c % 2147483647 := Int.emod_nonneg _ (by decide)
  have c1 : c % 2147483647 < 2147483647 := Int.emod_lt_of_pos _ (by decide)
  have s1 := small_of (i := c % 2147483647) c0 (by omega)
  have s2 := small_of (i := 2) (by decide) (by decide)
  have s3 := small_of (i := 2 * k) (by omega) (by omega)
  have s4 := small_of (i := 69621) (by decide) (by decide)
  simp [C__law_mixed, B__law_mixed, startE, s1, s2, s3, s4]
  exact ⟨Int.emod_nonneg _ (by decide), Int.emod_lt_of_pos _ (by decide)⟩
def stD (a : Int) : List (List Nat × D) := [([99, 101, 108, 108, 115], .ref 1), ([108, 101, 102, 116, 115], .ref 3), ([97, 116], .int a), ([114, 111, 111, 109], .int 0)]
/-- the state of the draws: at most a were made -/
def Stt (a : Int) (S : Store) : Prop := ∃ (cells lefts : List Int) (k : Int), 0 ≤ k ∧ k ≤ a ∧ 0 < cells.length ∧ lefts.length = cells.length ∧ S[1]? = some (.lst (cells.map .int)) ∧ S[3]? = some (.lst (lefts.map .int)) ∧ S[2]? = some (.dct (stD k))
/-- nothing else is changed, nothing gets locked -/
structure Fr (S S' : Store) : Prop where
  len : S.length ≤ S'.length
  keep : ∀ i o, 3 < i → S[i]? = some o → S'[i]? = some o
  nl : Nl [] S → Nl [] S'
theorem Fr.refl {S : Store} : Fr S S := ⟨Nat.le_refl _, fun _ _ _ h => h, fun h => h⟩
theorem Fr.trans {S S' S'' : Store} (a : Fr S S') (b : Fr S' S'') : Fr S S'' := ⟨Nat.le_trans a.len b.len, fun i o hi h => b.keep i o hi (a.keep i o hi h), fun h => b.nl (a.nl h)⟩
theorem Fr.of_gr {S S' : Store} (h : Gr [] S S') : Fr S S' := ⟨h.le, fun i o _ e => pre_get h.pre e, h.nl⟩
theorem lt_of_get {α : Type} {l : List α} {i : Nat} {x : α} (h : l[i]? = some x) : i < l.length := (List.getElem?_eq_some_iff.mp h).1
theorem take_snoc {α : Type} {l : List α} {i : Nat} {x : α} (h : l[i]? = some x) : l.take i ++ [x] = l.take (i + 1) := by rw [List.take_add_one, h]; rfl
theorem strsOf_is {S : Store} {n : Nat} {l : List (List Nat)} (h : S[n]? = some (.lst (l.map .str))) : strsOf (.ref n) S = some l := by
  have e : mapO asStr (l.map D.str) = some (l.map id) := mapO_map l fun _ _ => rfl
  rw [List.map_id] at e
  show (lstAt S n).bind (mapO asStr) = _
  rw [lstAt_of S h, Option.bind_some, e]
theorem Stt.of_pre {a : Int} {S S' : Store} (h : Stt a S) (x : S <+: S') : Stt a S' := by
  obtain ⟨cells, lefts, k, h0, h1, h2, h4, h5, h6, h7⟩ := h
  exact ⟨cells, lefts, k, h0, h1, h2, h4, pre_get x h5, pre_get x h6, pre_get x h7⟩
theorem Stt.mono {a b : Int} {S : Store} (h : Stt a S) (l : a ≤ b) : Stt b S := by
  obtain ⟨cells, lefts, k, h0, h1, r⟩ := h
  exact ⟨cells, lefts, k, h0, by omega, r⟩
theorem dix_cells {S : Store} {a : Int} (h : S[2]? = some (.dct (stD a))) : rixO (.ref 2) (.str [99, 101, 108, 108, 115]) S = some (.ref 1, S) := by
  show ((rdAt S 2).bind fun kvs => dGet kvs _).map _ = _
  rw [rd_of (.inl h)]; rfl
theorem dix_lefts {S : Store} {a : Int} (h : S[2]? = some (.dct (stD a))) : rixO (.ref 2) (.str [108, 101, 102, 116, 115]) S = some (.ref 3, S) := by
  show ((rdAt S 2).bind fun kvs => dGet kvs _).map _ = _
  rw [rd_of (.inl h)]; rfl
theorem dix_at {S : Store} {a : Int} (h : S[2]? = some (.dct (stD a))) : rixO (.ref 2) (.str [97, 116]) S = some (.int a, S) := by
  show ((rdAt S 2).bind fun kvs => dGet kvs _).map _ = _
  rw [rd_of (.inl h)]; rfl
theorem put_at {S : Store} {a b : Int} (h : S[2]? = some (.dct (stD a))) : putO (.ref 2) (.str [97, 116]) (.int b) S = some (S.set 2 (.dct (stD b))) := by
  show ((dctAt S 2).bind fun kvs => if kvs.length < lim then some (S.set 2 (.dct (dPut kvs _ _))) else none) = _
  rw [dctAt_of S h]; rfl
theorem draw_tail {u q m : Int} {S : Store} {P : D → Store → Prop} (q0 : 0 ≤ q) (q1 : q < 100000) (h0 : 0 < m) (fin : ∀ v : Int, 0 ≤ v → v < m → P (.int v) S) :
    Ends ((C__law_mixed [D.int u, D.int q] S).bind fun a S => (C__law_mixed [a, D.int (40 + q)] S).bind fun a S => (Res.of (mulO a (D.int 2147483647) S)).bind fun a_1 S => (C__law_mixed [a, D.int (7 + q)] S).bind fun a S =>
      (Res.of (addO a_1 a S)).bind fun a S => (Res.of (intF [a] S)).bind fun a S => (Res.of (fdivO a (D.int 64) S)).bind fun a S => Res.of (modO a (D.int m) S)) P := by
  have k1 : q < 1000000 := by omega
  have k2 : 40 + q < 1000000 := by omega
  have k3 : 7 + q < 1000000 := by omega
  refine (mixed_ok (c := u) (k := q) q0 k1).thn ?_
  rintro d S2 ⟨rfl, w1, rfl, w1a, w1b⟩
  refine (mixed_ok (c := w1) (k := 40 + q) (by omega) k2).thn ?_
  rintro d S3 ⟨rfl, w2, rfl, w2a, w2b⟩
  have sm := small_of (i := w2) w2a (by omega)
  simp [sm]
  refine (mixed_ok (c := w2) (k := 7 + q) (by omega) k3).thn ?_
  rintro d S4 ⟨rfl, w3, rfl, w3a, w3b⟩
  simp [h0]
  exact fin _ (Int.emod_nonneg _ (by omega)) (Int.emod_lt_of_pos _ h0)
/-- a draw, by what the state holds -/
theorem draw_core {k m n p v u : Int} {S S1 S2 : Store} {P : D → Store → Prop} (k0 : 0 ≤ k) (k1 : k < 100000) (h0 : 0 < m) (h1 : m < 1000) (n0 : 0 < n) (hp : k % n = p) (g2 : S[2]? = some (.dct (stD k)))
    (put : putO (.ref 2) (.str [97, 116]) (.int (k + 1)) S = some S1) (e2 : S1[2]? = some (.dct (stD (k + 1)))) (ln : lenF [.ref 1] S1 = some (.int n, S1)) (ixl : ixO (.ref 3) (.int p) S1 = some (.int v, S1)) (ixc : ixO (.ref 1) (.int p) S1 = some (.int u, S1))
    (lp : lputO (.ref 3) (.int p) (.int (v / m)) S1 = some S2) (f1 : ∀ w : Int, 0 ≤ w → w < m → P (.int w) S1) (f2 : ∀ w : Int, 0 ≤ w → w < m → P (.int w) S2) : Ends (C__law_draw [.ref 2, .int m] S) P := by
  have m30 : m < 1073741824 := by omega
  simp only [C__law_draw, B__law_draw, ev_body, startE]
  simp only [List.map_cons, List.map_nil, List.length_cons, List.length_nil, List.replicate, List.cons_append, List.nil_append, Nat.reduceSub, Nat.reduceAdd]
  simp [dix_at g2, put, dix_cells e2, ln, n0, hp, dix_lefts e2, ixl]
  by_cases hv0 : 0 < v
  · simp [hv0, h0, m30, dix_lefts e2, lp]
    exact f2 _ (Int.emod_nonneg _ (by omega)) (Int.emod_lt_of_pos _ h0)
  · simp [hv0, dix_cells e2, ixc]
    exact draw_tail k0 k1 h0 f1
theorem draw_ok {a : Int} {S : Store} {m : Int} (h : Stt a S) (ha : a < 100000) (h0 : 0 < m) (h1 : m < 1000) :
    Ends (C__law_draw [.ref 2, .int m] S) fun d S' => (∃ v : Int, d = .int v ∧ 0 ≤ v ∧ v < m) ∧ Stt (a + 1) S' ∧ Fr S S' := by
  obtain ⟨cells, lefts, k, k0, hk, c0, hl, g1, g3, g2⟩ := h
  have l2 : 2 < S.length := lt_of_get g2
  obtain ⟨S1, hS1⟩ : ∃ S1, S1 = S.set 2 (.dct (stD (k + 1))) := ⟨_, rfl⟩
  have e1 : S1[1]? = some (.lst (cells.map .int)) := by rw [hS1, List.getElem?_set_ne (by decide)]; exact g1
  have e3 : S1[3]? = some (.lst (lefts.map .int)) := by rw [hS1, List.getElem?_set_ne (by decide)]; exact g3
  have e2 : S1[2]? = some (.dct (stD (k + 1))) := by rw [hS1]; exact List.getElem?_set_self l2
  have f1 : Fr S S1 := ⟨by rw [hS1]; simp, (fun i o hi e => by rw [hS1, List.getElem?_set_ne (by omega)]; exact e), fun h => by rw [hS1]; exact h.set rfl⟩
  have put : putO (.ref 2) (.str [97, 116]) (.int (k + 1)) S = some S1 := by rw [hS1]; exact put_at g2
  have pr0 : 0 ≤ k % (cells.length : Int) := Int.emod_nonneg _ (by omega)
  have pr1 : k % (cells.length : Int) < (cells.length : Int) := Int.emod_lt_of_pos _ (by omega)
  obtain ⟨j, hj, jl⟩ : ∃ j : Nat, k % (cells.length : Int) = (j : Int) ∧ j < cells.length := ⟨(k % (cells.length : Int)).toNat, by omega, by omega⟩
  obtain ⟨v, hv⟩ : ∃ v, lefts[j]? = some v := ⟨_, List.getElem?_eq_getElem (by omega)⟩
  obtain ⟨u, hu⟩ : ∃ u, cells[j]? = some u := ⟨_, List.getElem?_eq_getElem jl⟩
  have ixl : ixO (.ref 3) (.int (j : Int)) S1 = some (.int v, S1) := by
    rw [ixO_ref _ _ _ _ e3, L2.atI_nat (by rw [List.getElem?_map, hv]; rfl)]; rfl
  have ixc : ixO (.ref 1) (.int (j : Int)) S1 = some (.int u, S1) := by
    rw [ixO_ref _ _ _ _ e1, L2.atI_nat (by rw [List.getElem?_map, hu]; rfl)]; rfl
  have ln : lenF [.ref 1] S1 = some (.int (cells.length : Int), S1) := by rw [lenF_ref _ _ _ e1]; simp
  have lp : lputO (.ref 3) (.int (j : Int)) (.int (v / m)) S1 = some (S1.set 3 (.lst ((lefts.set j (v / m)).map .int))) := by
    show (match S1[3]? with | some (.lst xs) => (L2.ixN xs.length _).map fun j => S1.set 3 (.lst (xs.set j _)) | _ => none) = _
    rw [e3]
    show (L2.ixN (lefts.map D.int).length _).map _ = _
    have : L2.ixN (lefts.map D.int).length (j : Int) = some j := by
      unfold L2.ixN
      rw [if_pos (by omega), if_pos (by rw [List.length_map]; omega), Int.toNat_natCast]
    rw [this]
    simp
  refine draw_core k0 (by omega) h0 h1 (n := (cells.length : Int)) (by omega) hj g2 put e2 ln ixl ixc lp (fun w w0 w1 => ⟨⟨w, rfl, w0, w1⟩, ⟨cells, lefts, k + 1, by omega, by omega, c0, hl, e1, e3, e2⟩, f1⟩) fun w w0 w1 => ⟨⟨w, rfl, w0, w1⟩, ⟨cells, lefts.set j (v / m), k + 1, by omega, by omega, c0, by simpa using hl, ?_, ?_, ?_⟩, f1.trans ⟨by simp, (fun i o hi e => by rw [List.getElem?_set_ne (by omega)]; exact e), fun h => h.set rfl⟩⟩
  · rw [List.getElem?_set_ne (by decide)]; exact e1
  · rw [List.getElem?_set_self (lt_of_get e3)]
  · rw [List.getElem?_set_ne (by decide)]; exact e2
theorem Stt.set {a : Int} {S : Store} {n : Nat} {o : O} (h : Stt a S) (hn : 3 < n) : Stt a (S.set n o) := by
  obtain ⟨cells, lefts, k, h0, h1, h2, h4, h5, h6, h7⟩ := h
  exact ⟨cells, lefts, k, h0, h1, h2, h4, by rw [List.getElem?_set_ne (by omega)]; exact h5, by rw [List.getElem?_set_ne (by omega)]; exact h6, by rw [List.getElem?_set_ne (by omega)]; exact h7⟩
theorem Stt.app {a : Int} {S T : Store} (h : Stt a S) : Stt a (S ++ T) := h.of_pre (List.prefix_append _ _)
theorem Stt.lt {a : Int} {S : Store} (h : Stt a S) : 3 < S.length := by
  obtain ⟨cells, lefts, k, h0, h1, h2, h4, h5, h6, h7⟩ := h
  exact lt_of_get h6
theorem Fr.set {S S' : Store} {n : Nat} {o : O} (h : Fr S S') (hn : S.length ≤ n) (ho : unlO o = o) : Fr S (S'.set n o) :=
  ⟨by rw [List.length_set]; exact h.len, (fun i x hi e => by rw [List.getElem?_set_ne (by have := lt_of_get e; omega)]; exact h.keep i x hi e), fun z => (h.nl z).set ho⟩
theorem Fr.app {S S' : Store} {o : O} (h : Fr S S') (ho : unlO o = o) : Fr S (S' ++ [o]) := h.trans (.of_gr (Gr.app o ho))
theorem cps {α : Type} {r : Res α} {Q : α → Store → Prop} (h : ∀ P : α → Store → Prop, (∀ a S, Q a S → P a S) → Ends r P) : Ends r Q := h Q fun _ _ q => q
/-! ### loops over ranges -/
theorem srcRg_nat {k : Nat} (h : k < 100000) : srcRg [.int (k : Int)] = some ⟨k + 1, fun i _ => if i < k then some (some (.int (i : Nat))) else some none⟩ := by
  have e : -(2 ^ 62) ≤ (k : Int) ∧ (k : Int) < 2 ^ 62 := by constructor <;> omega
  simp only [srcRg, if_pos e, Int.toNat_natCast]
theorem srcRg_int {j : Int} {k : Nat} (e : j = (k : Int)) (h : k < 100000) : srcRg [.int j] = some ⟨k + 1, fun i _ => if i < k then some (some (.int (i : Nat))) else some none⟩ := by rw [e]; exact srcRg_nat h
theorem for_range {n v : Nat} {body : SF} {Q : Out → Store → Prop} {ρ : Env} {S : Store} (I : Nat → Env → Store → Prop) (h0 : I 0 ρ S)
    (step : ∀ i ρ S, i < n → I i ρ S → Ends (body (ρ.set v (some (.int (i : Nat)))) S) fun o S1 => match o with
      | .nx ρ2 => I (i + 1) ρ2 S1
      | .ct ρ2 => I (i + 1) ρ2 S1
      | .bk ρ2 => Q (.nx ρ2) S1
      | .ret d => Q (.ret d) S1
      | .xc _ _ => False)
    (fin : ∀ ρ S, I n ρ S → Q (.nx ρ) S) : Ends (forF (fun i _ => if i < n then some (some (.int (i : Nat))) else some none) (.nm v) body (n + 1) 0 ρ S) Q := by
  refine for_ends n (fun i => .int (i : Nat)) I (fun i ρ S _ _ => rfl) ?_ fin _ 0 _ _ h0 (Nat.zero_le _) (by omega)
  intro i ρ S hi h
  exact ⟨_, rfl, step i ρ S hi h⟩
/-! ### the beginning -/
@[simp] theorem ev_qNil (ρ : Env) (S : Store) : qNil ρ S = .ok [] S := rfl
@[simp] theorem ev_qCons (k v : EF) (r : PFs) (ρ : Env) (S : Store) : qCons k v r ρ S = (k ρ S).bind fun x S1 => (v ρ S1).bind fun y S2 => (r ρ S2).bind fun ps S3 => .ok ((x, y) :: ps) S3 := rfl
@[simp] theorem ev_disp (q : PFs) (ρ : Env) (S : Store) : eDisp q ρ S = (q ρ (S ++ [.dct []])).bind fun ps S1 => match S1[S.length]?, mapO asKey ps with
  | some (.dct []), some kvs => if kvs.length ≤ 15 then .ok (.ref S.length) (S1.set S.length (.dct (dMerge [] kvs))) else .stuck
  | _, _ => .stuck := rfl
def lefts_ (ns : List Int) : List Int := ns.map fun c => if (1000000000000000000 : Int) ≤ c then c else 0
theorem pow_is (S : Store) : powO (.int 10) (.int 18) S = some (.int 1000000000000000000, S) := by rfl
def elB : EF := eIf (tOf (eOp geO (eVar 2) (eOp powO (eC (.int 10)) (eC (.int 18))))) (eVar 2) (eC (.int 0))
theorem begin_lc {ns : List Int} {a b : Option D} {S : Store} (h : ns.length < 1000) (g : S[1]? = some (.lst (ns.map .int))) :
    Ends (lcF (fun i S => (lstAt S 1).bind fun xs => nxL xs i) (.nm 2) tYesF elB S.length (ns.length + 1) 0 [a, b, none] (S ++ [.lst []])) fun d S' => d = .ref S.length ∧ S' = S ++ [.lst ((lefts_ ns).map .int)] := by
  refine lc_ends ns.length (fun i => (ns.map D.int).getD i .non) (fun i acc S' => acc = ((lefts_ ns).map D.int).take i ∧ S' = S ++ [.lst acc]) (by simp only [lim_is]; omega) ?_ ?_ ?_ _ 0 [] _ ⟨by simp, rfl⟩ (by simp) (by simp) (by omega) (by omega)
  · rintro i acc S' ⟨_, rfl⟩ hi
    have g' : (S ++ [O.lst acc])[1]? = some (.lst (ns.map .int)) := by rw [List.getElem?_append_left (lt_of_get g)]; exact g
    rw [lstAt_of _ g', Option.bind_some]
    have := nxL_is (ns.map D.int) i (by simpa using hi)
    simpa using this
  · rintro i acc S' hi ⟨rfl, rfl⟩ e
    refine ⟨_, rfl, ?_⟩
    have ei : (ns.map D.int).getD i .non = .int ns[i] := by simp [hi]
    rw [ei]
    have es : ((lefts_ ns).map D.int)[i]? = some (.int (if (1000000000000000000 : Int) ≤ ns[i] then ns[i] else 0)) := by simp [lefts_, hi]
    have sn := take_snoc es
    by_cases c : (1000000000000000000 : Int) ≤ ns[i]
    · rw [if_pos c] at sn
      simp [elB, pow_is, c]
      exact sn
    · rw [if_neg c] at sn
      simp [elB, pow_is, c]
      exact sn
  · rintro acc S' ⟨rfl, rfl⟩ e
    rw [List.take_of_length_le (by simp [lefts_])]
    exact ⟨rfl, rfl⟩
theorem mapO_ints (S : Store) : ∀ ns : List Int, mapO (toP 59 S) (ns.map D.int) = some (ns.map PySem.PyData.int)
  | [] => rfl
  | n :: ns => by simp only [List.map_cons, mapO, mapO_ints S ns]; rfl
theorem begin_tail {ns : List Int} {a : Option D} (h : ns.length < 1000) (h0 : 0 < ns.length) :
    Ends (eDisp (qCons (eC (.str [99, 101, 108, 108, 115])) (eVar 1) (qCons (eC (.str [108, 101, 102, 116, 115])) (eLc (iVal (eVar 1)) (.nm 2) tYesF elB [2]) (qCons (eC (.str [97, 116])) (eC (.int 0)) (qCons (eC (.str [114, 111, 111, 109])) (eC (.int 0)) qNil)))) [a, some (.ref 1), none] [.lst [], .lst (ns.map .int)]) fun d S' => d = .ref 2 ∧ Stt 0 S' ∧ Nl [] S' := by
  have es : srcOf (.ref 1) [O.lst [], .lst (ns.map D.int), .dct []] = some ⟨ns.length + 1, fun i S => (lstAt S 1).bind fun xs => nxL xs i⟩ := by
    have l1 : lstAt [O.lst [], .lst (ns.map D.int), .dct []] 1 = some (ns.map D.int) := lstAt_of _ rfl
    simp only [srcOf, l1, Option.map_some, List.length_map]
  have lc := begin_lc (ns := ns) (a := a) (b := some (.ref 1)) (S := [.lst [], .lst (ns.map .int), .dct []]) h rfl
  simp only [List.length_cons, List.length_nil, Nat.reduceAdd] at lc
  simp [es, wipeE]
  simp only [List.cons_append, List.nil_append] at lc
  refine lc.thn ?_
  rintro d S' ⟨rfl, rfl⟩
  simp
  have e : mapO asKey [(D.str [99, 101, 108, 108, 115], D.ref 1), (D.str [108, 101, 102, 116, 115], D.ref 3), (D.str [97, 116], D.int 0), (D.str [114, 111, 111, 109], D.int 0)] = some (stD 0) := rfl
  rw [e]
  simp
  have e2 : dMerge [] (stD 0) = stD 0 := rfl
  rw [e2]
  simp [stD]
  refine ⟨⟨ns, lefts_ ns, 0, by omega, by omega, h0, by simp [lefts_], rfl, by simp, rfl⟩, ?_⟩
  intro i o e _
  match i, e with
  | 0, e => cases e; rfl
  | 1, e => cases e; rfl
  | 2, e => cases e; rfl
  | 3, e => cases e; rfl
  | i + 4, e => simp at e
theorem begin_ok (ns : List Int) (h : ns.length ≤ 63) : Ends (C__law_begin [.scl (ns.map D.int)] []) fun d S' => d = .ref 2 ∧ Stt 0 S' ∧ Nl [] S' := by
  have ne : neO (.scl (ns.map D.int)) (.ref 0) [O.lst []] = some (.bl (!ns.isEmpty), [O.lst []]) := by
    have t1 : toP 60 [O.lst []] (.scl (ns.map D.int)) = some (.list (ns.map PySem.PyData.int)) := by
      show (mapO (toP 59 [O.lst []]) (ns.map D.int)).map PySem.PyData.list = _
      rw [mapO_ints]; rfl
    have t2 : toP 60 [O.lst []] (.ref 0) = some (.list []) := rfl
    show (match toP 60 [O.lst []] (.scl (ns.map D.int)), toP 60 [O.lst []] (.ref 0) with | some p, some q => some (D.bl (!PySem.PyData.eqv p q), [O.lst []]) | _, _ => none) = _
    rw [t1, t2]
    cases ns <;> rfl
  have B : B__law_begin = sSeq (sSet 1 (eIf (tOf (eOp neO (eVar 0) (eLst aNil))) (eCall listF (aCons (eVar 0) aNil)) (eLst (aCons (eC (.int 0)) aNil)))) (sRet (eDisp (qCons (eC (.str [99, 101, 108, 108, 115])) (eVar 1) (qCons (eC (.str [108, 101, 102, 116, 115])) (eLc (iVal (eVar 1)) (.nm 2) tYesF elB [2]) (qCons (eC (.str [97, 116])) (eC (.int 0)) (qCons (eC (.str [114, 111, 111, 109])) (eC (.int 0)) qNil)))))) := rfl
  unfold C__law_begin
  rw [B]
  simp only [ev_body, startE]
  cases ns with
  | nil =>
    have t := begin_tail (ns := [0]) (a := some (.scl [])) (by simp) (by simp)
    revert t
    generalize eDisp _ = dd
    intro t
    simp at ne
    simp [ne]
    refine t.mono ?_
    rintro d S' ⟨rfl, h'⟩
    exact ⟨rfl, h'⟩
  | cons n ns =>
    have t := begin_tail (ns := n :: ns) (a := some (.scl ((n :: ns).map D.int))) (by omega) (by simp)
    have li : listF [.scl ((n :: ns).map D.int)] [O.lst []] = some (.ref 1, [O.lst [], .lst ((n :: ns).map D.int)]) := rfl
    revert t
    generalize eDisp _ = dd
    intro t
    simp at ne li t
    simp [ne, li]
    exact t
/-! ### a thing out of a list, by a draw -/
theorem pick {β : Type} {f : D → Store → Res β} {P : β → Store → Prop} {a m : Int} {S : Store} {n : Nat} {xs : List D} (h : Stt a S) (ha : a < 100000) (hn : 3 < n) (g : S[n]? = some (.lst xs)) (hm : m = (xs.length : Int)) (x0 : 0 < xs.length) (x1 : xs.length < 1000)
    (k : ∀ d S', d ∈ xs → Stt (a + 1) S' → Fr S S' → Ends (f d S') P) : Ends ((C__law_draw [.ref 2, .int m] S).bind fun v S1 => (Res.of (ixO (.ref n) v S1)).bind f) P := by
  subst hm
  refine (draw_ok h ha (by omega) (by omega)).thn ?_
  rintro d S1 ⟨⟨v, rfl, v0, v1⟩, h1, f1⟩
  obtain ⟨j, rfl⟩ : ∃ j : Nat, v = (j : Int) := ⟨v.toNat, by omega⟩
  have jl : j < xs.length := by omega
  rw [ixO_ref _ _ _ _ (f1.keep n _ hn g), L2.atI_nat (List.getElem?_eq_getElem jl)]
  simp only [Option.map_some, of_some, Res.bind_ok]
  exact k _ _ (List.getElem_mem jl) h1 f1
theorem pick1 {P : D → Store → Prop} {a m : Int} {S : Store} {n : Nat} {xs : List D} (h : Stt a S) (ha : a < 100000) (hn : 3 < n) (g : S[n]? = some (.lst xs)) (hm : m = (xs.length : Int)) (x0 : 0 < xs.length) (x1 : xs.length < 1000)
    (k : ∀ d S', d ∈ xs → Stt (a + 1) S' → Fr S S' → P d S') : Ends ((C__law_draw [.ref 2, .int m] S).bind fun v S1 => Res.of (ixO (.ref n) v S1)) P := by
  have := pick (f := fun d S => .ok d S) (P := P) h ha hn g hm x0 x1 fun d S' h1 h2 h3 => by rw [ends_ok]; exact k d S' h1 h2 h3
  simpa using this
/-! ### names -/
def tenN : List (List Nat) := [[65], [66], [67], [68, 95], [68, 66], [72, 79, 83, 84], [88], [89], [90, 95, 90], [65, 66, 67, 68, 69, 70, 71, 72]]
theorem popi_is {S : Store} {n j : Nat} {xs : List D} {y : D} (h : S[n]? = some (.lst xs)) (hj : xs[j]? = some y) (l : xs.length < 1000) : popM (.ref n) [.int (j : Int)] S = some (y, S.set n (.lst (xs.eraseIdx j))) := by
  have jl := lt_of_get hj
  have ei : L2.ixN xs.length (j : Int) = some j := by
    unfold L2.ixN
    rw [if_pos (by omega), if_pos (by omega), Int.toNat_natCast]
  have e : -(2 ^ 63) ≤ (j : Int) ∧ (j : Int) < 2 ^ 63 := by constructor <;> omega
  simp only [popM, h, if_pos e, ei, Option.bind_some, hj, Option.map_some]
theorem eraseIdx_map' {α β : Type} (f : α → β) (l : List α) (j : Nat) : (l.map f).eraseIdx j = (l.eraseIdx j).map f := by
  simp [List.eraseIdx_eq_take_drop_succ]
theorem names_ok {a mi : Int} {S : Store} {m : Nat} (hm : mi = (m : Int)) (h : Stt a S) (ha : a < 90000) (m1 : 1 ≤ m) (m6 : m ≤ 6) :
    Ends (C__law_names [.ref 2, .int mi] S) fun d S' => ∃ (n : Nat) (l : List (List Nat)), d = .ref n ∧ 3 < n ∧ S.length ≤ n ∧ S'[n]? = some (.lst (l.map .str)) ∧ l.length = m ∧ (∃ q, (q ++ l).Perm tenN) ∧ l.Pairwise (fun a b => leT a b = true) ∧ Stt (a + m) S' ∧ Fr S S' := by
  have l3 := h.lt
  refine cps fun P hP => ?_
  simp only [C__law_names, B__law_names, ev_body, startE]
  simp [srcRg_int hm (by omega)]
  refine (for_range (fun i ρ S' => ∃ (some_ found : List (List Nat)) (k : Option D), ρ = [some (.ref 2), some (.int mi), k, some (.ref S.length), some (.ref (S.length + 1))] ∧ S'[S.length]? = some (.lst (some_.map .str)) ∧ S'[S.length + 1]? = some (.lst (found.map .str)) ∧
      some_.length + i = 10 ∧ found.length = i ∧ (some_ ++ found).Perm tenN ∧ Stt (a + i) S' ∧ Fr S S')
    (Q := fun o S' => ∃ (some_ found : List (List Nat)) (k : Option D), o = .nx [some (.ref 2), some (.int mi), k, some (.ref S.length), some (.ref (S.length + 1))] ∧ S'[S.length + 1]? = some (.lst (found.map .str)) ∧ found.length = m ∧ (some_ ++ found).Perm tenN ∧ Stt (a + m) S' ∧ Fr S S') ?_ ?_ ?_).thn ?_
  · refine ⟨tenN, [], none, rfl, ?_, ?_, rfl, rfl, by simp, by simpa using (h.app (T := _)), ?_⟩
    · simp [tenN]
    · simp
    · have := (Fr.refl (S := S)).app (o := .lst (tenN.map .str)) rfl
      have := this.app (o := .lst []) rfl
      simpa [tenN] using this
  · rintro i ρ S1 hi ⟨so, fo, k, rfl, g1, g2, l1, l2, o1, h1, f1⟩
    have p0 : 0 < so.length := by omega
    refine cps fun P hP => ?_
    simp [v_tyl g1, v_tyl g2, lenF_ref _ _ _ g1]
    refine (draw_ok h1 (by omega) (m := (so.length : Int)) (by omega) (by omega)).thn ?_
    rintro d S2 ⟨⟨v, rfl, v0, v1⟩, h2, f2⟩
    obtain ⟨j, rfl⟩ : ∃ j : Nat, v = (j : Int) := ⟨v.toNat, by omega⟩
    have jl : j < so.length := by omega
    have g1' := f2.keep _ _ (by omega) g1
    have g2' := f2.keep _ _ (by omega) g2
    have hj : (so.map D.str)[j]? = some (.str so[j]) := by rw [List.getElem?_map, List.getElem?_eq_getElem jl]; rfl
    rw [popi_is g1' hj (by simp; omega)]
    simp only [of_some, Res.bind_ok]
    have g3 : (S2.set S.length (.lst ((so.map D.str).eraseIdx j)))[S.length + 1]? = some (.lst (fo.map .str)) := by rw [List.getElem?_set_ne (by omega)]; exact g2'
    rw [v_app g3 (by simp; omega)]
    simp only [of_some, Res.bind_ok, ends_ok]
    refine hP _ _ ⟨so.eraseIdx j, fo ++ [so[j]], _, rfl, ?_, ?_, ?_, ?_, ?_, ?_, ?_⟩
    · rw [List.getElem?_set_ne (by omega), List.getElem?_set_self (lt_of_get g1'), eraseIdx_map']
    · rw [List.getElem?_set_self (lt_of_get g3)]; simp
    · rw [List.length_eraseIdx_of_lt jl]; omega
    · simp [l2]
    · refine List.Perm.trans ?_ o1
      have e1 : (so[j] :: so.eraseIdx j).Perm so := by
        rw [List.eraseIdx_eq_take_drop_succ]
        have : so = so.take j ++ so[j] :: so.drop (j + 1) := by rw [← List.drop_eq_getElem_cons jl, List.take_append_drop]
        conv => rhs; rw [this]
        exact List.perm_middle.symm
      have e2 : (so.eraseIdx j ++ (fo ++ [so[j]])).Perm (so[j] :: (so.eraseIdx j ++ fo)) := by
        rw [← List.append_assoc]
        exact List.perm_append_singleton _ _
      exact e2.trans (by rw [← List.cons_append]; exact e1.append_right fo)
    · have := (h2.set (n := S.length) (o := .lst ((so.map D.str).eraseIdx j)) (by omega)).set (n := S.length + 1) (o := .lst (fo.map D.str ++ [.str so[j]])) (by omega)
      simpa [Int.add_assoc] using this
    · exact ((f1.trans f2).set (by omega) rfl).set (by omega) rfl
  · rintro ρ S1 ⟨so, fo, k, rfl, g1, g2, l1, l2, o1, h1, f1⟩
    exact ⟨so, fo, k, rfl, g2, l2, o1, h1, f1⟩
  · rintro o S1 ⟨so, fo, k, rfl, g2, l2, o1, h1, f1⟩
    have e : sortedF [.ref (S.length + 1)] S1 = some (.ref S1.length, S1 ++ [.lst ((sortT fo).map .str)]) := by
      show (strsOf (.ref (S.length + 1)) S1).bind _ = _
      rw [strsOf_is g2, Option.bind_some, if_pos (by simp only [lim_is]; omega)]
    simp [e]
    refine hP _ _ ⟨S1.length, sortT fo, rfl, ?_, ?_, ?_, ?_, ⟨so, ?_⟩, sortT_sorted fo, h1.app, f1.app rfl⟩
    · have := lt_of_get g2; omega
    · exact f1.len
    · simp
    · rw [(sortT_perm fo).length_eq]; exact l2
    · exact ((sortT_perm fo).append_left so).trans o1
end LK34

set_option Elab.async false
set_option linter.all false
set_option maxRecDepth 1000000
set_option maxHeartbeats 4000000
namespace LK34
open PySem Al
abbrev nA : Txt := [65]
abbrev nB : Txt := [66]
def sy : Sy := ⟨tenN, [nA, nB]⟩
abbrev Binner : SF := (sFor (iVal (eCallD C__law_rows (aCons (eOp ixO (eVar 3) (eC (.int 0))) (aCons (eOp ixO (eVar 3) (eC (.int 1))) aNil)))) (.tp [4, 5, 6]) (sIf (tNotF (tOf (eCallD C__law_right (aCons (eVar 4) (aCons (eVar 3) (aCons (eVar 5) (aCons (eVar 6) aNil))))))) (sRet (eC (.bl false))) sNx))
def vInner (s : Sy) : VS := (vFor (vIt s (vCallD (V__law_rows s) (vCons (vOp (ixV s) (vVar 3) (vC s (.int 0))) (vCons (vOp (ixV s) (vVar 3) (vC s (.int 1))) vNil)))) (.tp [4, 5, 6]) (vSIf (vTNot (vT (vCallD (V__law_right s) (vCons (vVar 4) (vCons (vVar 3) (vCons (vVar 5) (vCons (vVar 6) vNil))))))) (vRet (vC s (.bl false))) vNx))
theorem ss_inner {s : Sy} {r : Txt → Txt} (R : Rn s r) : SS r true [] [] [] Binner (vInner s) :=
  ss_for (t := .tp [4, 5, 6]) (si_val R (sp_callD (pu__law_rows R) (sa_cons (sp_op (ov_ix R) (SP.l (sp_var 3 (by decide))) (SP.l (sp_c R rfl))) (sa_cons (sp_op (ov_ix R) (SP.l (sp_var 3 (by decide))) (SP.l (sp_c R rfl))) sa_nil)))) (by decide)
    (ss_if (st_not (st_of (SP.l (sp_callD (pu__law_right R) (sa_cons (sp_var 4 (by decide)) (sa_cons (sp_var 3 (by decide)) (sa_cons (sp_var 5 (by decide)) (sa_cons (sp_var 6 (by decide)) sa_nil)))))))) (ss_ret (sp_c R rfl)) ss_nx)
theorem keeps_inner : Keeps [4, 5, 6] Binner := keeps_for (by decide) (keeps_if keeps_ret keeps_nx)
def isNx : Option VOut → Bool
  | some (.nx _) => true
  | _ => false
def sg0 (x y : Txt) : VEnv := [none, none, none, some (.lst [.str x, .str y]), none, none, none]
theorem in_AB : isNx (vInner sy (sg0 nA nB)) = true := by decide +kernel
theorem in_BA : isNx (vInner sy (sg0 nB nA)) = true := by decide +kernel
theorem nx_of {o : Option VOut} (h : isNx o = true) : ∃ σ, o = some (.nx σ) := by
  unfold isNx at h
  split at h
  · exact ⟨_, rfl⟩
  · cases h
theorem ten_good : ∀ x ∈ tenN, strsOk x = true ∧ nmB x = true := by decide
/-- the files by hand, for two names -/
theorem inner_ok {a b : Txt} (ha : a ∈ tenN) (hb : b ∈ tenN) (hab : leT b a = false) (flip : Bool) {ρ : Al.Env} {S : Store} {n : Nat} (hl : ρ.length = 7) (h3 : ρ[3]? = some (some (.ref n))) (hn : S[n]? = some (.lst ((if flip then [b, a] else [a, b]).map .str))) (nl : Nl [] S) :
    Ends (Binner ρ S) fun o S' => ∃ ρ', o = .nx ρ' ∧ ρ'.length = 7 ∧ (∀ i, i ∉ [4, 5, 6] → ρ'[i]? = ρ[i]?) ∧ Gr [] S S' := by
  have kA : nA ∈ tenN := by decide
  have kB : nB ∈ tenN := by decide
  have pw : [(nA, a), (nB, b)].Pairwise fun p q => leT q.1 p.1 = false ∧ leT q.2 p.2 = false := by
    simp [hab]
    decide
  have R : Rn sy (mkR [(nA, a), (nB, b)]) := mkR_rn (K := tenN) (K0 := [nA, nB]) rfl (by intro p hp; simp at hp; rcases hp with rfl | rfl; exact ⟨kA, ha⟩; exact ⟨kB, hb⟩) pw ten_good
  have refl : ∀ x, leT x x = true := fun x => by rcases leT_total x x with h | h <;> exact h
  have ne : a ≠ b := fun w => by rw [w, refl] at hab; cases hab
  have at_ := mkR_at [(nA, a), (nB, b)] (by simp) (by simp [ne])
  have rA : mkR [(nA, a), (nB, b)] nA = a := at_ (nA, a) (by simp)
  have rB : mkR [(nA, a), (nB, b)] nB = b := at_ (nB, b) (by simp)
  generalize mkR [(nA, a), (nB, b)] = r at R rA rB
  have key : ∀ (x y : Txt), isNx (vInner sy (sg0 x y)) = true → S[n]? = some (.lst ([r x, r y].map .str)) → Ends (Binner ρ S) fun o S' => ∃ ρ', o = .nx ρ' ∧ ρ'.length = 7 ∧ (∀ i, i ∉ [4, 5, 6] → ρ'[i]? = ρ[i]?) ∧ Gr [] S S' := by
    intro x y hv hs
    obtain ⟨σ', e⟩ := nx_of hv
    have I : Iv r true [] ⟨[], [], []⟩ ρ S (sg0 x y) := by
      refine ⟨fun _ => rfl, fun i => by simp, nl, fun m hm => by simp [Cv.H, Cv.ms] at hm, by simp [Cv.ms], fun m hm => by simp [Cv.ms] at hm, by rw [hl]; rfl, ?_, fun i m hm => by simp at hm⟩
      intro i u hi _
      match i, hi with
      | 0, hi => simp [sg0] at hi
      | 1, hi => simp [sg0] at hi
      | 2, hi => simp [sg0] at hi
      | 3, hi =>
        simp [sg0] at hi
        subst hi
        exact ⟨.ref n, h3, rep_lst.mpr ⟨_, latV_of hs (by simp [Cv.H, Cv.ms]), reps.of_strs [x, y]⟩⟩
      | 4, hi => simp [sg0] at hi
      | 5, hi => simp [sg0] at hi
      | 6, hi => simp [sg0] at hi
      | i + 7, hi => simp [sg0] at hi
    have g := ss_inner R ⟨[], [], []⟩ ρ S (sg0 x y) (.nx σ') I e
    obtain ⟨ρ', S', M', g1, g2, g3, g4⟩ := g
    have k := keeps_inner ρ S _ _ g1
    rw [g1]
    exact ⟨ρ', rfl, k.1.trans hl, k.2, kv_gr g3⟩
  cases flip with
  | false => exact key nA nB in_AB (by rw [rA, rB]; simpa using hn)
  | true => exact key nB nA in_BA (by rw [rA, rB]; simpa using hn)
/-! ### the end -/
abbrev Bend : SF := (sRet (eAnd (eOp isNotO (eCallD C_unfixed (aCons (eTup aNil) (aCons (eC (.str [78, 69, 87])) aNil))) (eC .non)) (eAnd (eNot (eCallD C_lasts (aCons (eTup aNil) (aCons (eC (.str [78, 69, 87])) aNil)))) (eOp deqO (eCallD C_fixed (aCons (eTup aNil) aNil)) eD0))))
def vEnd (s : Sy) : VS := (vRet (vAnd (vOp isNotV (vCallD (V_unfixed s) (vCons (vTup vNil) (vCons (vC s (.str [78, 69, 87])) vNil))) (vC s .non)) (vAnd (vNot (vCallD (V_lasts s) (vCons (vTup vNil) (vCons (vC s (.str [78, 69, 87])) vNil)))) (vOp (deqV s) (vCallD (V_fixed s) (vCons (vTup vNil) vNil)) (fun _ => some (.dct [] []))))))
theorem ss_end {s : Sy} {r : Txt → Txt} (R : Rn s r) : SS r true [] [] [] Bend (vEnd s) :=
  ss_ret (sp_and (sp_op ov_isNot (SP.l (sp_callD (pu_unfixed R) (sa_cons (sp_tup sa_nil) (sa_cons (sp_c R rfl) sa_nil)))) (SP.l (sp_c R rfl))) (sp_and (sp_not (sp_callD (pu_lasts R) (sa_cons (sp_tup sa_nil) (sa_cons (sp_c R rfl) sa_nil)))) (sp_op (ov_deq R) (SP.l (sp_callD (pu_fixed R) (sa_cons (sp_tup sa_nil) sa_nil))) (SP.l sp_d0))))
def isRt : Option VOut → Bool
  | some (.ret (.bl true)) => true
  | _ => false
theorem rt_of {o : Option VOut} (h : isRt o = true) : o = some (.ret (.bl true)) := by
  unfold isRt at h
  split at h
  · rfl
  · cases h
theorem end_ev : isRt (vEnd s0 []) = true := by decide +kernel
theorem end_eq (σ : VEnv) : vEnd s0 σ = vEnd s0 [] := rfl
theorem end_ok {ρ : Al.Env} {S : Store} (nl : Nl [] S) : Ends (Bend ρ S) fun o S' => o = .ret (.bl true) := by
  have I : Iv id true [] ⟨[], [], []⟩ ρ S (List.replicate ρ.length none) := by
    refine ⟨fun _ => rfl, fun i => by simp, nl, fun m hm => by simp [Cv.H, Cv.ms] at hm, by simp [Cv.ms], fun m hm => by simp [Cv.ms] at hm, by simp, ?_, fun i m hm => by simp at hm⟩
    intro i u hi _
    have := List.mem_of_getElem? hi
    simp at this
  obtain ⟨d, S', g1, g2, g3⟩ := ss_end rn0 ⟨[], [], []⟩ ρ S _ (.ret (.bl true)) I ((end_eq _).trans (rt_of end_ev))
  rw [g1]
  show Out.ret d = _
  rw [rep_bl.mp g2]
/-! ### the law -/
abbrev Bturn : SF := (sSeq (sSet 3 (eCallD C__law_names (aCons (eVar 1) (aCons (eC (.int 2)) aNil))))
    (sSeq (sSet 3 (eIf (tOf (eOp eqO (eCallD C__law_draw (aCons (eVar 1) (aCons (eC (.int 2)) aNil))) (eC (.int 0)))) (eRev (eVar 3) (eNeg (eC (.int 1)))) (eVar 3))) Binner))
theorem two_of {l q : List Txt} (hl : l.length = 2) (hp : (q ++ l).Perm tenN) (hs : l.Pairwise fun a b => leT a b = true) : ∃ a b, l = [a, b] ∧ a ∈ tenN ∧ b ∈ tenN ∧ leT b a = false := by
  match l, hl with
  | [a, b], _ =>
    have nd : (q ++ [a, b]).Nodup := hp.symm.nodup (by decide)
    have n2 : [a, b].Nodup := (List.nodup_append.mp nd).2.1
    have ne : a ≠ b := by simpa using n2
    have le : leT a b = true := by simpa using hs
    refine ⟨a, b, rfl, hp.mem_iff.mp (by simp), hp.mem_iff.mp (by simp), ?_⟩
    cases q : leT b a with
    | false => rfl
    | true => exact absurd (leT_anti le q) ne
theorem turn_ok {a : Int} {S : Store} {x0 x2 x3 x4 x5 x6 : Option D} (h : Stt a S) (ha : a < 80000) (nl : Nl [] S) :
    Ends (Bturn [x0, some (.ref 2), x2, x3, x4, x5, x6] S) fun o S' => ∃ x2 x3 x4 x5 x6, o = .nx [x0, some (.ref 2), x2, x3, x4, x5, x6] ∧ Stt (a + 3) S' ∧ Nl [] S' := by
  have fin : ∀ (S1 : Store) (n : Nat) (l : List Txt) (p q : Txt) (fl : Bool), p ∈ tenN → q ∈ tenN → leT q p = false → l = (if fl then [q, p] else [p, q]) → S1[n]? = some (.lst (l.map .str)) → Stt (a + 3) S1 → Nl [] S1 → Ends (Binner [x0, some (.ref 2), x2, some (.ref n), x4, x5, x6] S1) fun o S' => ∃ x2 x3 x4 x5 x6, o = .nx [x0, some (.ref 2), x2, x3, x4, x5, x6] ∧ Stt (a + 3) S' ∧ Nl [] S' := by
    intro S1 n l p q fl hp hq hpq hl hn hs hnl
    refine (inner_ok hp hq hpq fl (n := n) rfl rfl (hl ▸ hn) hnl).mono ?_
    rintro o S' ⟨ρ', rfl, hl', hk, g⟩
    match ρ', hl' with
    | [y0, y1, y2, y3, y4, y5, y6], _ =>
      have k0 := hk 0 (by decide)
      have k1 := hk 1 (by decide)
      simp at k0 k1
      subst k0 k1
      exact ⟨_, _, _, _, _, rfl, hs.of_pre g.pre, g.nl hnl⟩
  unfold Bturn
  generalize Binner = BB at fin ⊢
  refine cps fun P hP => ?_
  simp
  refine (names_ok (m := 2) rfl h (by omega) (by omega) (by omega)).thn ?_
  rintro d S1 ⟨n, l, rfl, n3, _, gn, ll, ⟨q, perm⟩, srt, h1, f1⟩
  obtain ⟨p, q, rfl, hp, hq, hpq⟩ := two_of ll perm srt
  simp
  refine (draw_ok h1 (by omega) (m := 2) (by omega) (by omega)).thn ?_
  rintro d S2 ⟨⟨v, rfl, v0, v1⟩, h2, f2⟩
  have g2 := f2.keep n _ n3 gn
  have nl2 : Nl [] S2 := f2.nl (f1.nl nl)
  have h2' : Stt (a + 3) S2 := h2.mono (by omega)
  simp
  by_cases hv : v = 0
  · subst hv
    simp [g2]
    exact (fin (S2 ++ [.lst [.str q, .str p]]) S2.length [q, p] p q true hp hq hpq rfl (by simp) h2'.app ((Gr.app _ rfl).nl nl2)).mono hP
  · simp [hv]
    exact (fin S2 n [p, q] p q false hp hq hpq rfl g2 h2' nl2).mono hP
theorem law_eq : B_law = sSeq (sSet 1 (eCallD C__law_begin (aCons (eVar 0) aNil))) (sSeq (sFor (iRange (aCons (eOp addO (eC (.int 3)) (eCall minF (aCons (eC (.int 3)) (aCons (eCall lenF (aCons (eVar 0) aNil)) aNil)))) aNil)) (.nm 2) Bturn) Bend) := rfl
theorem law_true (ns : List Int) (hn : ns.length ≤ 63) : ∃ S, C_law [.scl (ns.map D.int)] [] = .ok (.bl true) S := by
  have main : Ends (C_law [.scl (ns.map D.int)] []) fun d S => d = .bl true := by
    unfold C_law
    rw [law_eq]
    have T := @turn_ok
    have E := @end_ok
    generalize Bturn = BT at T ⊢
    generalize Bend = BE at E ⊢
    simp only [ev_body, startE]
    simp
    refine (begin_ok ns hn).thn ?_
    rintro d S0 ⟨rfl, h0, nl0⟩
    obtain ⟨k, hk, k7⟩ : ∃ k : Nat, (3 : Int) + (if (ns.length : Int) < 3 then (ns.length : Int) else 3) = (k : Int) ∧ k ≤ 7 := by
      by_cases e : (ns.length : Int) < 3
      · rw [if_pos e]; exact ⟨3 + ns.length, by omega, by omega⟩
      · rw [if_neg e]; exact ⟨6, by omega, by omega⟩
    try simp
    rw [srcRg_int hk (by omega)]
    simp
    refine (for_range (fun i ρ S' => ∃ x2 x3 x4 x5 x6, ρ = [some (.scl (ns.map D.int)), some (.ref 2), x2, x3, x4, x5, x6] ∧ Stt ((i : Int) * 3) S' ∧ Nl [] S') (Q := fun o S' => ∃ ρ, o = .nx ρ ∧ Nl [] S') ?_ ?_ ?_).thn ?_
    · exact ⟨none, none, none, none, none, rfl, by simpa using h0, nl0⟩
    · rintro i ρ S1 hi ⟨x2, x3, x4, x5, x6, rfl, h1, nl1⟩
      refine (T (x0 := some (.scl (ns.map D.int))) (x2 := some (.int (i : Nat))) (x3 := x3) (x4 := x4) (x5 := x5) (x6 := x6) h1 (by omega) nl1).mono ?_
      rintro o S2 ⟨y2, y3, y4, y5, y6, rfl, h2, nl2⟩
      exact ⟨y2, y3, y4, y5, y6, rfl, h2.mono (by omega), nl2⟩
    · rintro ρ S1 ⟨x2, x3, x4, x5, x6, rfl, h1, nl1⟩
      exact ⟨_, rfl, nl1⟩
    · rintro o S1 ⟨ρ, rfl, nl1⟩
      simp
      refine (E (ρ := ρ) nl1).thn ?_
      rintro o S2 rfl
      simp
  obtain ⟨d, S, e, rfl⟩ := main.ex
  exact ⟨S, e⟩
end LK34

open PySem PySem.W PyProof.Rows
set_option maxHeartbeats 0 in
theorem PySem.Challenge.cw_envrows_k34_fixed_and_lasting_by_hand_holds : PySem.Challenge.rw_envrows_k34_fixed_and_lasting_by_hand.Holds := by
  w_on; o_law; k_head; (case hw => w_witness2)
  k_fill
  refine Al.walk_G (l := PySem.Challenge.rw_envrows_k34_fixed_and_lasting_by_hand) (n := 63) (k := 21) (x := "script") (C := LK34.C_law) rfl (by decide) rfl ⟨⟨rfl, by decide, by decide⟩, rfl⟩ (fun w h Y => PySem.W.kIn_of Y) ?F LK34.law_true
  case F =>
    intro w mg fa h KX G hmg
    open L2 Al LK34 in
    have cl_Runner := by
      refine' cls_mk KX 274 ?a ?b ?c ?d
      (case a => k_is); (case b => k_is); (case c => k_is); (case d => k_is)
    have na_Runner_spots_seen := by
      refine' na_mk KX 274 "spots_seen" ?a
      (case a => k_is)
    have na_Runner_values_now := by
      refine' na_mk KX 274 "values_now" ?a
      (case a => k_is)
    have d_is_name := by
      refine' df_mk (x := "is_name") (st := st_is_name) (ps := ["thing"]) KX G ?a ?l ?c ?k (fun _ _ _ _ _ _ us hl => match us, hl with | [_], _ => rfl)
      (case a => k_is); (case l => k_is); (case c => k_is); (case k => k_is)
    have d_is_plain := by
      refine' df_mk (x := "is_plain") (st := st_is_plain) (ps := ["thing"]) KX G ?a ?l ?c ?k (fun _ _ _ _ _ _ us hl => match us, hl with | [_], _ => rfl)
      (case a => k_is); (case l => k_is); (case c => k_is); (case k => k_is)
    have d_is_part := by
      refine' df_mk (x := "is_part") (st := st_is_part) (ps := ["thing", "levels"]) KX G ?a ?l ?c ?k (fun _ _ _ _ _ _ us hl => match us, hl with | [_, _], _ => rfl)
      (case a => k_is); (case l => k_is); (case c => k_is); (case k => k_is)
    have d_is_text_of := by
      refine' df_mk (x := "is_text_of") (st := st_is_text_of) (ps := ["thing", "levels"]) KX G ?a ?l ?c ?k (fun _ _ _ _ _ _ us hl => match us, hl with | [_, _], _ => rfl)
      (case a => k_is); (case l => k_is); (case c => k_is); (case k => k_is)
    have d_is_text := by
      refine' df_mk (x := "is_text") (st := st_is_text) (ps := ["thing"]) KX G ?a ?l ?c ?k (fun _ _ _ _ _ _ us hl => match us, hl with | [_], _ => rfl)
      (case a => k_is); (case l => k_is); (case c => k_is); (case k => k_is)
    have d_is_row := by
      refine' df_mk (x := "is_row") (st := st_is_row) (ps := ["thing"]) KX G ?a ?l ?c ?k (fun _ _ _ _ _ _ us hl => match us, hl with | [_], _ => rfl)
      (case a => k_is); (case l => k_is); (case c => k_is); (case k => k_is)
    have d_text_of_row := by
      refine' df_mk (x := "text_of_row") (st := st_text_of_row) (ps := ["row"]) KX G ?a ?l ?c ?k (fun _ _ _ _ _ _ us hl => match us, hl with | [_], _ => rfl)
      (case a => k_is); (case l => k_is); (case c => k_is); (case k => k_is)
    have d_names_in_text := by
      refine' df_mk (x := "names_in_text") (st := st_names_in_text) (ps := ["text"]) KX G ?a ?l ?c ?k (fun _ _ _ _ _ _ us hl => match us, hl with | [_], _ => rfl)
      (case a => k_is); (case l => k_is); (case c => k_is); (case k => k_is)
    have d_names_in := by
      refine' df_mk (x := "names_in") (st := st_names_in) (ps := ["rows"]) KX G ?a ?l ?c ?k (fun _ _ _ _ _ _ us hl => match us, hl with | [_], _ => rfl)
      (case a => k_is); (case l => k_is); (case c => k_is); (case k => k_is)
    have d_need_file := by
      refine' df_mk (x := "need_file") (st := st_need_file) (ps := ["thing"]) KX G ?a ?l ?c ?k (fun _ _ _ _ _ _ us hl => match us, hl with | [_], _ => rfl)
      (case a => k_is); (case l => k_is); (case c => k_is); (case k => k_is)
    have d_kind_of := by
      refine' df_mk (x := "kind_of") (st := st_kind_of) (ps := ["sign"]) KX G ?a ?l ?c ?k (fun _ _ _ _ _ _ us hl => match us, hl with | [_], _ => rfl)
      (case a => k_is); (case l => k_is); (case c => k_is); (case k => k_is)
    have d_is_hard := by
      refine' df_mk (x := "is_hard") (st := st_is_hard) (ps := ["sign"]) KX G ?a ?l ?c ?k (fun _ _ _ _ _ _ us hl => match us, hl with | [_], _ => rfl)
      (case a => k_is); (case l => k_is); (case c => k_is); (case k => k_is)
    have d_all_names := by
      refine' df_mk (x := "all_names") (st := st_all_names) (ps := ["files", "names"]) KX G ?a ?l ?c ?k (fun _ _ _ _ _ _ us hl => match us, hl with | [_, _], _ => rfl)
      (case a => k_is); (case l => k_is); (case c => k_is); (case k => k_is)
    have d_all_cases := by
      refine' df_mk (x := "all_cases") (st := st_all_cases) (ps := ["names"]) KX G ?a ?l ?c ?k (fun _ _ _ _ _ _ us hl => match us, hl with | [_], _ => rfl)
      (case a => k_is); (case l => k_is); (case c => k_is); (case k => k_is)
    have d_begun := by
      refine' df_mk (x := "begun") (st := st_begun) (ps := ["case"]) KX G ?a ?l ?c ?k (fun _ _ _ _ _ _ us hl => match us, hl with | [_], _ => rfl)
      (case a => k_is); (case l => k_is); (case c => k_is); (case k => k_is)
    have d_length_of := by
      refine' df_mk (x := "length_of") (st := st_length_of) (ps := ["word"]) KX G ?a ?l ?c ?k (fun _ _ _ _ _ _ us hl => match us, hl with | [_], _ => rfl)
      (case a => k_is); (case l => k_is); (case c => k_is); (case k => k_is)
    have d_put_together := by
      refine' df_mk (x := "put_together") (st := st_put_together) (ps := ["one", "other"]) KX G ?a ?l ?c ?k (fun _ _ _ _ _ _ us hl => match us, hl with | [_, _], _ => rfl)
      (case a => k_is); (case l => k_is); (case c => k_is); (case k => k_is)
    have d_Runner___init__ := by
      refine' di_mk (x := "Runner") (qual := "Runner.__init__") (st := st_Runner___init__) (ps := ["self", "values"]) KX G 274 ?g ?mk ?kc ?a ?l ?c ?k ?fn (fun _ _ _ _ _ _ us hl => match us, hl with | [_, _], _ => rfl)
      (case g => k_is); (case mk => k_is); (case kc => k_is); (case a => k_is); (case l => k_is); (case c => k_is); (case k => k_is); (case fn => k_is)
    have d_Runner_part := by
      refine' dm_mk (m := "part") (qual := "Runner.part") (st := st_Runner_part) (ps := ["self", "piece", "spot"]) KX 274 cl_Runner ?a ?l ?c ?k ?fn (fun _ _ _ _ _ _ us hl => match us, hl with | [_, _, _], _ => rfl)
      (case a => k_is); (case l => k_is); (case c => k_is); (case k => k_is); (case fn => k_is)
    have d_Runner_worked := by
      refine' dm_mk (m := "worked") (qual := "Runner.worked") (st := st_Runner_worked) (ps := ["self", "text", "spot"]) KX 274 cl_Runner ?a ?l ?c ?k ?fn (fun _ _ _ _ _ _ us hl => match us, hl with | [_, _, _], _ => rfl)
      (case a => k_is); (case l => k_is); (case c => k_is); (case k => k_is); (case fn => k_is)
    have d_Runner_done_row := by
      refine' dm_mk (m := "done_row") (qual := "Runner.done_row") (st := st_Runner_done_row) (ps := ["self", "number", "row"]) KX 274 cl_Runner ?a ?l ?c ?k ?fn (fun _ _ _ _ _ _ us hl => match us, hl with | [_, _, _], _ => rfl)
      (case a => k_is); (case l => k_is); (case c => k_is); (case k => k_is); (case fn => k_is)
    have d_Runner_run_rows := by
      refine' dm_mk (m := "run_rows") (qual := "Runner.run_rows") (st := st_Runner_run_rows) (ps := ["self", "rows"]) KX 274 cl_Runner ?a ?l ?c ?k ?fn (fun _ _ _ _ _ _ us hl => match us, hl with | [_, _], _ => rfl)
      (case a => k_is); (case l => k_is); (case c => k_is); (case k => k_is); (case fn => k_is)
    have d_outcome_in := by
      refine' df_mk (x := "outcome_in") (st := st_outcome_in) (ps := ["rows", "case"]) KX G ?a ?l ?c ?k (fun _ _ _ _ _ _ us hl => match us, hl with | [_, _], _ => rfl)
      (case a => k_is); (case l => k_is); (case c => k_is); (case k => k_is)
    have d_outcomes := by
      refine' df_mk (x := "outcomes") (st := st_outcomes) (ps := ["rows", "names"]) KX G ?a ?l ?c ?k (fun _ _ _ _ _ _ us hl => match us, hl with | [_, _], _ => rfl)
      (case a => k_is); (case l => k_is); (case c => k_is); (case k => k_is)
    have d_environment_of := by
      refine' df_mk (x := "environment_of") (st := st_environment_of) (ps := ["case"]) KX G ?a ?l ?c ?k (fun _ _ _ _ _ _ us hl => match us, hl with | [_], _ => rfl)
      (case a => k_is); (case l => k_is); (case c => k_is); (case k => k_is)
    have d_need_name := by
      refine' df_mk (x := "need_name") (st := st_need_name) (ps := ["thing"]) KX G ?a ?l ?c ?k (fun _ _ _ _ _ _ us hl => match us, hl with | [_], _ => rfl)
      (case a => k_is); (case l => k_is); (case c => k_is); (case k => k_is)
    have d_done_ends := by
      refine' df_mk (x := "done_ends") (st := st_done_ends) (ps := ["file", "names"]) KX G ?a ?l ?c ?k (fun _ _ _ _ _ _ us hl => match us, hl with | [_, _], _ => rfl)
      (case a => k_is); (case l => k_is); (case c => k_is); (case k => k_is)
    have d_is_plain_word := by
      refine' df_mk (x := "is_plain_word") (st := st_is_plain_word) (ps := ["word"]) KX G ?a ?l ?c ?k (fun _ _ _ _ _ _ us hl => match us, hl with | [_], _ => rfl)
      (case a => k_is); (case l => k_is); (case c => k_is); (case k => k_is)
    have d_is_fixed := by
      refine' df_mk (x := "is_fixed") (st := st_is_fixed) (ps := ["ends", "name"]) KX G ?a ?l ?c ?k (fun _ _ _ _ _ _ us hl => match us, hl with | [_, _], _ => rfl)
      (case a => k_is); (case l => k_is); (case c => k_is); (case k => k_is)
    have d_fixed := by
      refine' df_mk (x := "fixed") (st := st_fixed) (ps := ["file"]) KX G ?a ?l ?c ?k (fun _ _ _ _ _ _ us hl => match us, hl with | [_], _ => rfl)
      (case a => k_is); (case l => k_is); (case c => k_is); (case k => k_is)
    have d_longer := by
      refine' df_mk (x := "longer") (st := st_longer) (ps := ["case"]) KX G ?a ?l ?c ?k (fun _ _ _ _ _ _ us hl => match us, hl with | [_], _ => rfl)
      (case a => k_is); (case l => k_is); (case c => k_is); (case k => k_is)
    have d_unfixed := by
      refine' df_mk (x := "unfixed") (st := st_unfixed) (ps := ["file", "name"]) KX G ?a ?l ?c ?k (fun _ _ _ _ _ _ us hl => match us, hl with | [_, _], _ => rfl)
      (case a => k_is); (case l => k_is); (case c => k_is); (case k => k_is)
    have d_breaking_case := by
      refine' df_mk (x := "breaking_case") (st := st_breaking_case) (ps := ["file", "name"]) KX G ?a ?l ?c ?k (fun _ _ _ _ _ _ us hl => match us, hl with | [_, _], _ => rfl)
      (case a => k_is); (case l => k_is); (case c => k_is); (case k => k_is)
    have d_lasts := by
      refine' df_mk (x := "lasts") (st := st_lasts) (ps := ["file", "name"]) KX G ?a ?l ?c ?k (fun _ _ _ _ _ _ us hl => match us, hl with | [_, _], _ => rfl)
      (case a => k_is); (case l => k_is); (case c => k_is); (case k => k_is)
    have d_breaker := by
      refine' df_mk (x := "breaker") (st := st_breaker) (ps := ["file", "name"]) KX G ?a ?l ?c ?k (fun _ _ _ _ _ _ us hl => match us, hl with | [_, _], _ => rfl)
      (case a => k_is); (case l => k_is); (case c => k_is); (case k => k_is)
    have d__law_mixed := by
      refine' df_mk (x := "_law_mixed") (st := st__law_mixed) (ps := ["cell", "k"]) KX G ?a ?l ?c ?k (fun _ _ _ _ _ _ us hl => match us, hl with | [_, _], _ => rfl)
      (case a => k_is); (case l => k_is); (case c => k_is); (case k => k_is)
    have d__law_begin := by
      refine' df_mk (x := "_law_begin") (st := st__law_begin) (ps := ["script"]) KX G ?a ?l ?c ?k (fun _ _ _ _ _ _ us hl => match us, hl with | [_], _ => rfl)
      (case a => k_is); (case l => k_is); (case c => k_is); (case k => k_is)
    have d__law_draw := by
      refine' df_mk (x := "_law_draw") (st := st__law_draw) (ps := ["state", "many"]) KX G ?a ?l ?c ?k (fun _ _ _ _ _ _ us hl => match us, hl with | [_, _], _ => rfl)
      (case a => k_is); (case l => k_is); (case c => k_is); (case k => k_is)
    have d__law_worked := by
      refine' df_mk (x := "_law_worked") (st := st__law_worked) (ps := ["env", "text", "seen"]) KX G ?a ?l ?c ?k (fun _ _ _ _ _ _ us hl => match us, hl with | [_, _, _], _ => rfl)
      (case a => k_is); (case l => k_is); (case c => k_is); (case k => k_is)
    have d__law_run_seen := by
      refine' df_mk (x := "_law_run_seen") (st := st__law_run_seen) (ps := ["env", "rows", "seen"]) KX G ?a ?l ?c ?k (fun _ _ _ _ _ _ us hl => match us, hl with | [_, _, _], _ => rfl)
      (case a => k_is); (case l => k_is); (case c => k_is); (case k => k_is)
    have d__law_run := by
      refine' df_mk (x := "_law_run") (st := st__law_run) (ps := ["env", "rows"]) KX G ?a ?l ?c ?k (fun _ _ _ _ _ _ us hl => match us, hl with | [_, _], _ => rfl)
      (case a => k_is); (case l => k_is); (case c => k_is); (case k => k_is)
    have d__law_names := by
      refine' df_mk (x := "_law_names") (st := st__law_names) (ps := ["state", "many"]) KX G ?a ?l ?c ?k (fun _ _ _ _ _ _ us hl => match us, hl with | [_, _], _ => rfl)
      (case a => k_is); (case l => k_is); (case c => k_is); (case k => k_is)
    have d__law_rows := by
      refine' df_mk (x := "_law_rows") (st := st__law_rows) (ps := ["a", "b"]) KX G ?a ?l ?c ?k (fun _ _ _ _ _ _ us hl => match us, hl with | [_, _], _ => rfl)
      (case a => k_is); (case l => k_is); (case c => k_is); (case k => k_is)
    have d__law_shown := by
      refine' df_mk (x := "_law_shown") (st := st__law_shown) (ps := ["rows", "name", "found"]) KX G ?a ?l ?c ?k (fun _ _ _ _ _ _ us hl => match us, hl with | [_, _, _], _ => rfl)
      (case a => k_is); (case l => k_is); (case c => k_is); (case k => k_is)
    have d__law_broken := by
      refine' df_mk (x := "_law_broken") (st := st__law_broken) (ps := ["rows", "name", "found"]) KX G ?a ?l ?c ?k (fun _ _ _ _ _ _ us hl => match us, hl with | [_, _, _], _ => rfl)
      (case a => k_is); (case l => k_is); (case c => k_is); (case k => k_is)
    have d__law_right := by
      refine' df_mk (x := "_law_right") (st := st__law_right) (ps := ["rows", "names", "due", "last"]) KX G ?a ?l ?c ?k (fun _ _ _ _ _ _ us hl => match us, hl with | [_, _, _, _], _ => rfl)
      (case a => k_is); (case l => k_is); (case c => k_is); (case k => k_is)
    have d_law := by
      refine' df_mk (x := "law") (st := st_law) (ps := ["script"]) KX G ?a ?l ?c ?k (fun _ _ _ _ _ _ us hl => match us, hl with | [_], _ => rfl)
      (case a => k_is); (case l => k_is); (case c => k_is); (case k => k_is)
    have ox_Stop := by
      refine' ox_mk KX 228 ?a ?b ?c ?d ?e
      (case a => k_is); (case b => k_is); (case c => k_is); (case d => k_is); (case e => k_is)
    have xf_Stop := by
      refine' xf_mk KX 228 ?a ?b ?c ?d
      (case a => k_is); (case b => k_is); (case c => k_is); (case d => k_is)
    have nE_Stop : mg "Exception" = none := PySem.W.mg_none_of KX G (by k_is)
    have x_Stop := by
      refine' dx_mk (x := "Stop") (qual := "Stop.__init__") (st := st_Stop) (ps := ["self", "message"]) KX G 228 "message" ox_Stop xf_Stop nE_Stop ?g ?no ?me ?vv ?a ?l ?c ?k ?ty (fun _ _ _ _ _ _ us hl => match us, hl with | [_, _], _ => rfl)
      (case g => k_is); (case no => k_is); (case me => kts_exm); (case vv => k_is); (case a => k_is); (case l => k_is); (case c => k_is); (case k => k_is); (case ty => k_is)
    have c_BREAKING := by
      refine' cn_str (x := "BREAKING") KX G ?a [120] rfl
      (case a => k_is)
    have c_CAPITALS := by
      refine' cn_str (x := "CAPITALS") KX G ?a [65, 66, 67, 68, 69, 70, 71, 72, 73, 74, 75, 76, 77, 78, 79, 80, 81, 82, 83, 84, 85, 86, 87, 88, 89, 90] rfl
      (case a => k_is)
    have c_CHECK := by
      refine' cn_str (x := "CHECK") KX G ?a [99, 104, 101, 99, 107] rfl
      (case a => k_is)
    have c_DONE := by
      refine' cn_str (x := "DONE") KX G ?a [100, 111, 110, 101] rfl
      (case a => k_is)
    have c_DROP := by
      refine' cn_str (x := "DROP") KX G ?a [100, 114, 111, 112] rfl
      (case a => k_is)
    have c_EMPTY := by
      refine' cn_str (x := "EMPTY") KX G ?a [101, 109, 112, 116, 121] rfl
      (case a => k_is)
    have c_FULL := by
      refine' cn_str (x := "FULL") KX G ?a [102, 117, 108, 108] rfl
      (case a => k_is)
    have c_GIVE := by
      refine' cn_str (x := "GIVE") KX G ?a [103, 105, 118, 101] rfl
      (case a => k_is)
    have c_MOST_ASKED := by
      refine' cn_int (x := "MOST_ASKED") KX G ?a
      (case a => k_is)
    have c_MOST_IN_NAME := by
      refine' cn_int (x := "MOST_IN_NAME") KX G ?a
      (case a => k_is)
    have c_MOST_LEVELS := by
      refine' cn_int (x := "MOST_LEVELS") KX G ?a
      (case a => k_is)
    have c_MOST_LONG := by
      refine' cn_int (x := "MOST_LONG") KX G ?a
      (case a => k_is)
    have c_MOST_NAMES := by
      refine' cn_int (x := "MOST_NAMES") KX G ?a
      (case a => k_is)
    have c_MOST_PIECES := by
      refine' cn_int (x := "MOST_PIECES") KX G ?a
      (case a => k_is)
    have c_MOST_PLAIN := by
      refine' cn_int (x := "MOST_PLAIN") KX G ?a
      (case a => k_is)
    have c_MOST_ROWS := by
      refine' cn_int (x := "MOST_ROWS") KX G ?a
      (case a => k_is)
    have c_ONE_SIGN := by
      refine' cn_str (x := "ONE_SIGN") KX G ?a [97] rfl
      (case a => k_is)
    have c_PLAIN_SIGNS := by
      refine' cn_str (x := "PLAIN_SIGNS") KX G ?a [97, 98, 99, 100, 101, 102, 103, 104, 105, 106, 107, 108, 109, 110, 111, 112, 113, 114, 115, 116, 117, 118, 119, 120, 121, 122, 48, 49, 50, 51, 52, 53, 54, 55, 56, 57, 32, 95, 46, 47, 58, 61, 44, 64, 45] rfl
      (case a => k_is)
    have c_SET := by
      refine' cn_str (x := "SET") KX G ?a [115, 101, 116] rfl
      (case a => k_is)
    have c_SIGNS := by
      refine' cn_strs (x := "SIGNS") KX G ?a ?l [[], [45], [58, 45], [43], [58, 43], [63], [58, 63], [61], [58, 61]] ?h1 ?h3 ?s ?v
      (case a => k_is); (case l => k_is); (case h1 => rfl); (case h3 => rfl); (case s => decide); (case v => exact (.cons rfl (.cons rfl (.cons rfl (.cons rfl (.cons rfl (.cons rfl (.cons rfl (.cons rfl (.cons rfl .nil))))))))))
    have c_STOPPED := by
      refine' cn_str (x := "STOPPED") KX G ?a [115, 116, 111, 112, 112, 101, 100] rfl
      (case a => k_is)
    have c_UNSET := by
      refine' cn_str (x := "UNSET") KX G ?a [117, 110, 115, 101, 116] rfl
      (case a => k_is)
    have n_all : mg "all" = none := PySem.W.mg_none_of KX G (by k_is)
    have n_dict : mg "dict" = none := PySem.W.mg_none_of KX G (by k_is)
    have n_enumerate : mg "enumerate" = none := PySem.W.mg_none_of KX G (by k_is)
    have n_int : mg "int" = none := PySem.W.mg_none_of KX G (by k_is)
    have n_isinstance : mg "isinstance" = none := PySem.W.mg_none_of KX G (by k_is)
    have n_len : mg "len" = none := PySem.W.mg_none_of KX G (by k_is)
    have n_list : mg "list" = none := PySem.W.mg_none_of KX G (by k_is)
    have n_min : mg "min" = none := PySem.W.mg_none_of KX G (by k_is)
    have n_range : mg "range" = none := PySem.W.mg_none_of KX G (by k_is)
    have n_set : mg "set" = none := PySem.W.mg_none_of KX G (by k_is)
    have n_sorted : mg "sorted" = none := PySem.W.mg_none_of KX G (by k_is)
    have n_str : mg "str" = none := PySem.W.mg_none_of KX G (by k_is)
    have n_sum : mg "sum" = none := PySem.W.mg_none_of KX G (by k_is)
    have n_tuple : mg "tuple" = none := PySem.W.mg_none_of KX G (by k_is)
    have n_zip : mg "zip" = none := PySem.W.mg_none_of KX G (by k_is)
    exact ok_end d_law hmg fun base => LK34.ok_law (base := base) ⟨c_BREAKING, c_CAPITALS, c_CHECK, c_DONE, c_DROP, c_EMPTY, c_FULL, c_GIVE, c_MOST_ASKED, c_MOST_IN_NAME, c_MOST_LEVELS, c_MOST_LONG, c_MOST_NAMES, c_MOST_PIECES, c_MOST_PLAIN, c_MOST_ROWS, c_ONE_SIGN, c_PLAIN_SIGNS, c_SET, c_SIGNS, c_STOPPED, c_UNSET, n_all, n_dict, n_enumerate, n_int, n_isinstance, n_len, n_list, n_min, n_range, n_set, n_sorted, n_str, n_sum, n_tuple, n_zip, d_is_name, d_is_plain, d_is_part, d_is_text_of, d_is_text, d_is_row, d_text_of_row, d_names_in_text, d_names_in, d_need_file, d_kind_of, d_is_hard, d_all_names, d_all_cases, d_begun, d_length_of, d_put_together, d_Runner___init__, d_Runner_part, d_Runner_worked, d_Runner_done_row, d_Runner_run_rows, d_outcome_in, d_outcomes, d_environment_of, d_need_name, d_done_ends, d_is_plain_word, d_is_fixed, d_fixed, d_longer, d_unfixed, d_breaking_case, d_lasts, d_breaker, d__law_mixed, d__law_begin, d__law_draw, d__law_worked, d__law_run_seen, d__law_run, d__law_names, d__law_rows, d__law_shown, d__law_broken, d__law_right, d_law, cl_Runner, na_Runner_spots_seen, na_Runner_values_now, x_Stop⟩
